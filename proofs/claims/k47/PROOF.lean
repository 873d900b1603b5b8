import PyProof.Rows.All
import Wide.All
import OpenK.AllK
import Wide.FinOn
import HandS.ForMost
import HandS.Exc
import HandS.TryOnly
import HandS.ExcOwn
import HandS.ExcInit
import HandS.ExcField
import HandS.TryMany
import HandS.CallSlots
import HandS.Conv
import HandS.IsInst
import HandS.SortInts
import HandS.SortKw
import HandS.Style
import HandS.Wide
import HandS.Flow
import HandS.WordsExc
import HandS.RevRange
import HandS.Rev
import HandS.Deep
import HandS.FStr
import HandS.StrMore
import HandS.SetFor
import HandS.Strs
import HandS.DeepEq
import PySem.Challenge.RW_dialhouse_k47_whole_regrets
set_option Elab.async false
set_option linter.all false
set_option maxRecDepth 100000
set_option maxHeartbeats 4000000
set_option synthInstance.maxSize 4000
/-! A layer of values: what a Python value is worth as plain data; lists are frozen, own, lent or passing. -/
namespace DH
open PySem L2

inductive LK where
  | frz | own | bor | tmp
  deriving DecidableEq

inductive D where
  | non
  | bl (b : Bool)
  | int (i : Int)
  | str (x : Str)
  | lst (k : LK) (xs : List D)
  | tup (xs : List D)
  | ins (c : Str) (fs : List (Str × D))
  | obj (c : Str) (fs : List (Str × D))
  | scr (ns : List Int)

mutual
/-- may be held twice: no own list within -/
def D.dup : D → Bool
  | .lst .own _ => false
  | .lst .tmp _ => false
  | .lst .frz _ => true
  | .lst .bor _ => true
  | .tup xs => D.dupAll xs
  | .obj _ _ => false
  | .non => true | .bl _ => true | .int _ => true | .str _ => true | .ins _ _ => true | .scr _ => true
def D.dupAll : List D → Bool
  | [] => true
  | x :: xs => D.dup x && D.dupAll xs
end
mutual
/-- may be handed back: no lent list within -/
def D.ret : D → Bool
  | .lst .own _ => true
  | .lst .tmp _ => false
  | .lst .frz _ => true
  | .lst .bor _ => false
  | .tup xs => D.retAll xs
  | .obj _ _ => false
  | .scr _ => false
  | .non => true | .bl _ => true | .int _ => true | .str _ => true | .ins _ _ => true
def D.retAll : List D → Bool
  | [] => true
  | x :: xs => D.ret x && D.retAll xs
end
mutual
/-- own lists become frozen -/
def D.frz : D → D
  | .lst .own xs => .lst .frz (D.frzAll xs)
  | .tup xs => .tup (D.frzAll xs)
  | .lst .tmp xs => .lst .tmp xs
  | .lst .frz xs => .lst .frz xs
  | .lst .bor xs => .lst .bor xs
  | .non => .non | .bl b => .bl b | .int i => .int i | .str x => .str x | .ins c fs => .ins c fs | .obj c fs => .obj c fs | .scr ns => .scr ns
def D.frzAll : List D → List D
  | [] => []
  | x :: xs => D.frz x :: D.frzAll xs
end
mutual
/-- own lists are lent to a def that is called -/
def D.lend : D → D
  | .lst .own xs => .lst .bor (D.lendAll xs)
  | .lst .tmp xs => .lst .bor (D.lendAll xs)
  | .tup xs => .tup (D.lendAll xs)
  | .lst .frz xs => .lst .frz xs
  | .lst .bor xs => .lst .bor xs
  | .non => .non | .bl b => .bl b | .int i => .int i | .str x => .str x | .ins c fs => .ins c fs | .obj c fs => .obj c fs | .scr ns => .scr ns
def D.lendAll : List D → List D
  | [] => []
  | x :: xs => D.lend x :: D.lendAll xs
end
mutual
/-- no object that is being made within -/
def D.len : D → Bool
  | .lst .tmp xs => D.lenAll xs
  | .lst .own _ => true
  | .lst .frz _ => true
  | .lst .bor _ => true
  | .tup xs => D.lenAll xs
  | .obj _ _ => false
  | .non => true | .bl _ => true | .int _ => true | .str _ => true | .ins _ _ => true | .scr _ => true
def D.lenAll : List D → Bool
  | [] => true
  | x :: xs => D.len x && D.lenAll xs
end
def D.pureAll (xs : List D) : Bool := D.dupAll xs && D.retAll xs

/-- the written part, the module's names -/
structure Tx where
  K : PySem.W.Frag
  mg : Str → Option Value
/-- what the derivations of one def share: .., the heap and what is frozen at the entry, a caught exception's slot and address -/
structure Gam where
  T : Tx
  H0 : Hp
  F0 : Hp
  pin : List (Nat × Addr)
abbrev Gam.K (G : Gam) : PySem.W.Frag := G.T.K
abbrev Gam.mg (G : Gam) : Str → Option Value := G.T.mg
/-- .. from a later point on -/
abbrev Gam.at (G : Gam) (H0 F0 : Hp) : Gam := { G with H0 := H0, F0 := F0 }

/-- the class named c, none of its attributes named as a field -/
structure ClsAt (G : Tx) (c : Str) (C : Addr) (fs : List Str) : Prop where
  g : G.mg c = some (.ref C)
  cls : Cls G.K C
  no : ∀ f ∈ fs, NoAttr G.K C f
mutual
inductive Dat (G : Tx) (F B H : Hp) : V → D → List Addr → Prop
  | non : Dat G F B H .non .non []
  | bl (b : Bool) : Dat G F B H (.bl b) (.bl b) []
  | int (i : Int) : Dat G F B H (.int i) (.int i) []
  | str (x : Str) : Dat G F B H (.str x) (.str x) []
  | frz {a : Addr} {vs : List V} {ds : List D} : F a = some (.lst vs) → Dats G F B H vs ds [] → D.pureAll ds = true → Dat G F B H (.ref a) (.lst .frz ds) []
  | own {a : Addr} {vs : List V} {ds : List D} {p : List Addr} : H a = some (.lst vs) → B a = none → Dats G F B H vs ds p → D.retAll ds = true → Dat G F B H (.ref a) (.lst .own ds) (a :: p)
  | tmp {a : Addr} {vs : List V} {ds : List D} {p : List Addr} : H a = some (.lst vs) → B a = none → Dats G F B H vs ds p → Dat G F B H (.ref a) (.lst .tmp ds) (a :: p)
  | bor {a : Addr} {vs : List V} {ds : List D} : B a = some (.lst vs) → Dats G F B H vs ds [] → D.dupAll ds = true → Dat G F B H (.ref a) (.lst .bor ds) []
  | tup {a : Addr} {vs : List V} {ds : List D} {p : List Addr} : SqT G.K F a vs → Dats G F B H vs ds p → Dat G F B H (.ref a) (.tup ds) p
  | ins {a C dx : Addr} {c : Str} {fvs : List (Str × V)} {fs : List (Str × D)} : F a = some (.ins C dx fvs) → ClsAt G c C (fs.map (·.1)) → fvs.map (·.1) = fs.map (·.1) → Dats G F B H (fvs.map (·.2)) (fs.map (·.2)) [] →
      D.pureAll (fs.map (·.2)) = true → Dat G F B H (.ref a) (.ins c fs) []
  | obj {a C dx : Addr} {c : Str} {fvs : List (Str × V)} {fs : List (Str × D)} : H a = some (.ins C dx fvs) → B a = none → ClsAt G c C (fs.map (·.1)) → fvs.map (·.1) = fs.map (·.1) → Dats G F B H (fvs.map (·.2)) (fs.map (·.2)) [] →
      D.pureAll (fs.map (·.2)) = true → Dat G F B H (.ref a) (.obj c fs) [a]
  | scr {a : Addr} {ns : List Int} : SqL G.K B a (ns.map V.int) → Dat G F B H (.ref a) (.scr ns) []
inductive Dats (G : Tx) (F B H : Hp) : List V → List D → List Addr → Prop
  | nil : Dats G F B H [] [] []
  | cons {v : V} {vs : List V} {d : D} {ds : List D} {p q : List Addr} : Dat G F B H v d p → Dats G F B H vs ds q → Dats G F B H (v :: vs) (d :: ds) (p ++ q)
end

section
variable {G : Tx} {F B H F' B' H' : Hp}
theorem seqT_same {K : PySem.W.Frag} {H H' : Hp} {a : Addr} {xs : List V} (e : Same H H') (h : SqT K H a xs) : SqT K H' a xs := by
  rcases h with (h | ⟨o, h⟩) | h
  · exact .inl (.inl (e _ _ h))
  · exact .inl (.inr ⟨o, e _ _ h⟩)
  · exact .inr h
mutual
/-- what a datum leans on -/
theorem Dat.stay (sf : Same F F') (sb : Same B B') : ∀ {v : V} {d : D} {p : List Addr}, Dat G F B H v d p → (∀ a ∈ p, H' a = H a ∧ B' a = none) → Dat G F' B' H' v d p
  | _, _, _, .non, _ => .non
  | _, _, _, .bl b, _ => .bl b
  | _, _, _, .int i, _ => .int i
  | _, _, _, .str x, _ => .str x
  | _, _, _, .frz e h c, _ => .frz (sf _ _ e) (Dats.stay sf sb h fun _ z => nomatch z) c
  | _, _, _, .own e n h c, k => .own ((k _ List.mem_cons_self).1.trans e) (k _ List.mem_cons_self).2 (Dats.stay sf sb h fun a z => k a (List.mem_cons_of_mem _ z)) c
  | _, _, _, .tmp e n h, k => .tmp ((k _ List.mem_cons_self).1.trans e) (k _ List.mem_cons_self).2 (Dats.stay sf sb h fun a z => k a (List.mem_cons_of_mem _ z))
  | _, _, _, .bor e h c, _ => .bor (sb _ _ e) (Dats.stay sf sb h fun _ z => nomatch z) c
  | _, _, _, .tup e h, k => .tup (seqT_same sf e) (Dats.stay sf sb h k)
  | _, _, _, .ins e m n h c, _ => .ins (sf _ _ e) m n (Dats.stay sf sb h fun _ z => nomatch z) c
  | _, _, _, .obj e b m n h c, k => .obj ((k _ List.mem_cons_self).1.trans e) (k _ List.mem_cons_self).2 m n (Dats.stay sf sb h fun _ z => nomatch z) c
  | _, _, _, .scr e, _ => .scr (sb.seq e)
theorem Dats.stay (sf : Same F F') (sb : Same B B') : ∀ {vs : List V} {ds : List D} {p : List Addr}, Dats G F B H vs ds p → (∀ a ∈ p, H' a = H a ∧ B' a = none) → Dats G F' B' H' vs ds p
  | _, _, _, .nil, _ => .nil
  | _, _, _, .cons h t, k => .cons (Dat.stay sf sb h fun a z => k a (List.mem_append_left _ z)) (Dats.stay sf sb t fun a z => k a (List.mem_append_right _ z))
end
mutual
/-- an own list stands, and is not lent -/
theorem Dat.foot : ∀ {v : V} {d : D} {p : List Addr}, Dat G F B H v d p → ∀ a ∈ p, H a ≠ none ∧ B a = none
  | _, _, _, .non, _, z => nomatch z
  | _, _, _, .bl b, _, z => nomatch z
  | _, _, _, .int i, _, z => nomatch z
  | _, _, _, .str x, _, z => nomatch z
  | _, _, _, .frz _ _ _, _, z => nomatch z
  | _, _, _, .own e n h _, a, z => by
    rcases List.mem_cons.mp z with rfl | z
    · exact ⟨(by rw [e]; exact fun q => nomatch q), n⟩
    · exact Dats.foot h a z
  | _, _, _, .tmp e n h, a, z => by
    rcases List.mem_cons.mp z with rfl | z
    · exact ⟨(by rw [e]; exact fun q => nomatch q), n⟩
    · exact Dats.foot h a z
  | _, _, _, .bor _ _ _, _, z => nomatch z
  | _, _, _, .tup _ h, a, z => Dats.foot h a z
  | _, _, _, .ins _ _ _ _ _, _, z => nomatch z
  | _, _, _, .obj e n _ _ _ _, a, z => by
    rcases List.mem_cons.mp z with rfl | z
    · exact ⟨(by rw [e]; exact fun q => nomatch q), n⟩
    · exact nomatch z
  | _, _, _, .scr _, _, z => nomatch z
theorem Dats.foot : ∀ {vs : List V} {ds : List D} {p : List Addr}, Dats G F B H vs ds p → ∀ a ∈ p, H a ≠ none ∧ B a = none
  | _, _, _, .nil, _, z => nomatch z
  | _, _, _, .cons h t, a, z => by
    rcases List.mem_append.mp z with z | z
    · exact Dat.foot h a z
    · exact Dats.foot t a z
end
mutual
theorem Dat.fp_dup : ∀ {v : V} {d : D} {p : List Addr}, Dat G F B H v d p → d.dup = true → p = []
  | _, _, _, .non, _ => rfl
  | _, _, _, .bl b, _ => rfl
  | _, _, _, .int i, _ => rfl
  | _, _, _, .str x, _ => rfl
  | _, _, _, .frz _ _ _, _ => rfl
  | _, _, _, .own _ _ _ _, z => nomatch z
  | _, _, _, .tmp _ _ _, z => nomatch z
  | _, _, _, .bor _ _ _, _ => rfl
  | _, _, _, .tup _ h, z => Dats.fp_dup h z
  | _, _, _, .ins _ _ _ _ _, _ => rfl
  | _, _, _, .obj _ _ _ _ _ _, z => nomatch z
  | _, _, _, .scr _, _ => rfl
theorem Dats.fp_dup : ∀ {vs : List V} {ds : List D} {p : List Addr}, Dats G F B H vs ds p → D.dupAll ds = true → p = []
  | _, _, _, .nil, _ => rfl
  | _, _, _, .cons h t, z => by
    obtain ⟨z1, z2⟩ := Bool.and_eq_true_iff.mp z
    rw [Dat.fp_dup h z1, Dats.fp_dup t z2] <;> rfl
end
theorem Dats.length : ∀ {vs : List V} {ds : List D} {p : List Addr}, Dats G F B H vs ds p → vs.length = ds.length
  | _, _, _, .nil => rfl
  | _, _, _, .cons _ t => congrArg (· + 1) t.length
theorem Dats.get : ∀ {vs : List V} {ds : List D} {p : List Addr} {i : Nat} {d : D}, Dats G F B H vs ds p → ds[i]? = some d → ∃ v q, vs[i]? = some v ∧ Dat G F B H v d q ∧ ∀ a ∈ q, a ∈ p
  | _, _, _, i, _, .nil, e => by simp at e
  | _, _, _, 0, _, .cons h t, e => by
    simp at e; subst e
    exact ⟨_, _, rfl, h, fun a z => List.mem_append_left _ z⟩
  | _, _, _, i + 1, _, .cons h t, e => by
    obtain ⟨v, q, e1, h1, k⟩ := Dats.get (i := i) t (by simpa using e)
    exact ⟨v, q, by simpa using e1, h1, fun a z => List.mem_append_right _ (k a z)⟩
theorem Dats.append : ∀ {vs ws : List V} {ds es : List D} {p q : List Addr}, Dats G F B H vs ds p → Dats G F B H ws es q → Dats G F B H (vs ++ ws) (ds ++ es) (p ++ q)
  | _, _, _, _, _, _, .nil, s => s
  | _, _, _, _, _, _, .cons (p := p1) h t, s => by
    rw [List.append_assoc]
    exact .cons h (t.append s)
theorem Dats.uncons : ∀ {vs : List V} {d : D} {ds : List D} {r : List Addr}, Dats G F B H vs (d :: ds) r → ∃ v ws p q, vs = v :: ws ∧ r = p ++ q ∧ Dat G F B H v d p ∧ Dats G F B H ws ds q
  | _, _, _, _, .cons h t => ⟨_, _, _, _, rfl, rfl, h, t⟩
theorem Dats.unnil : ∀ {vs : List V} {r : List Addr}, Dats G F B H vs [] r → vs = [] ∧ r = []
  | _, _, .nil => ⟨rfl, rfl⟩
theorem Dats.uncons0 {vs : List V} {d : D} {ds : List D} (h : Dats G F B H vs (d :: ds) []) : ∃ v ws, vs = v :: ws ∧ Dat G F B H v d [] ∧ Dats G F B H ws ds [] := by
  obtain ⟨v, ws, p, q, e, r, h1, h2⟩ := h.uncons
  obtain ⟨rfl, rfl⟩ := List.append_eq_nil_iff.mp r.symm
  exact ⟨v, ws, e, h1, h2⟩
theorem Dats.cons0 {v : V} {vs : List V} {d : D} {ds : List D} (h : Dat G F B H v d []) (t : Dats G F B H vs ds []) : Dats G F B H (v :: vs) (d :: ds) [] := Dats.cons h t
theorem Dats.app0 {vs ws : List V} {ds es : List D} (h : Dats G F B H vs ds []) (t : Dats G F B H ws es []) : Dats G F B H (vs ++ ws) (ds ++ es) [] := h.append t
theorem Dats.drop : ∀ (n : Nat) {vs : List V} {ds : List D}, Dats G F B H vs ds [] → Dats G F B H (vs.drop n) (ds.drop n) []
  | 0, _, _, h => h
  | n + 1, _, [], h => by
    obtain ⟨rfl, _⟩ := h.unnil
    exact h
  | n + 1, _, d :: ds, h => by
    obtain ⟨v, ws, rfl, h1, h2⟩ := h.uncons0
    exact Dats.drop n h2
theorem Dats.take : ∀ (n : Nat) {vs : List V} {ds : List D}, Dats G F B H vs ds [] → Dats G F B H (vs.take n) (ds.take n) []
  | 0, _, _, h => .nil
  | n + 1, _, [], h => by
    obtain ⟨rfl, _⟩ := h.unnil
    exact h
  | n + 1, _, d :: ds, h => by
    obtain ⟨v, ws, rfl, h1, h2⟩ := h.uncons0
    exact .cons0 h1 (Dats.take n h2)
theorem Dats.rev : ∀ {vs : List V} {ds : List D}, Dats G F B H vs ds [] → Dats G F B H vs.reverse ds.reverse []
  | _, [], h => by
    obtain ⟨rfl, _⟩ := h.unnil
    exact h
  | _, d :: ds, h => by
    obtain ⟨v, ws, rfl, h1, h2⟩ := h.uncons0
    rw [List.reverse_cons, List.reverse_cons]
    exact (Dats.rev h2).app0 (.cons0 h1 .nil)
theorem Dats.rep {vs : List V} {ds : List D} (h : Dats G F B H vs ds []) : ∀ k : Nat, Dats G F B H (List.replicate k vs).flatten (List.replicate k ds).flatten []
  | 0 => .nil
  | k + 1 => by
    rw [List.replicate_succ, List.replicate_succ, List.flatten_cons, List.flatten_cons]
    exact h.app0 (Dats.rep h k)
theorem Dats.ints : ∀ (ns : List Int), Dats G F B H (ns.map V.int) (ns.map D.int) []
  | [] => .nil
  | n :: ns => .cons0 (.int n) (Dats.ints ns)
theorem Dats.to_ints : ∀ {ns : List Int} {vs : List V} {p : List Addr}, Dats G F B H vs (ns.map D.int) p → vs = ns.map V.int
  | [], _, _, h => h.unnil.1
  | n :: ns, _, _, h => by
    obtain ⟨v, ws, p, q, rfl, _, h1, h2⟩ := h.uncons
    cases h1
    rw [Dats.to_ints h2]
    rfl
theorem Dats.to_strs : ∀ {ns : List Str} {vs : List V} {p : List Addr}, Dats G F B H vs (ns.map D.str) p → vs = ns.map V.str
  | [], _, _, h => h.unnil.1
  | n :: ns, _, _, h => by
    obtain ⟨v, ws, p, q, rfl, _, h1, h2⟩ := h.uncons
    cases h1
    rw [Dats.to_strs h2]
    rfl
theorem Dats.strs : ∀ (ns : List Str), Dats G F B H (ns.map V.str) (ns.map D.str) []
  | [] => .nil
  | n :: ns => .cons0 (.str n) (Dats.strs ns)

/-! ### pure lists -/
theorem dupAll_append (xs ys : List D) : D.dupAll (xs ++ ys) = (D.dupAll xs && D.dupAll ys) := by
  induction xs with
  | nil => rfl
  | cons x xs ih =>
    show (D.dup x && D.dupAll (xs ++ ys)) = ((D.dup x && D.dupAll xs) && D.dupAll ys)
    rw [ih, Bool.and_assoc]
theorem retAll_append (xs ys : List D) : D.retAll (xs ++ ys) = (D.retAll xs && D.retAll ys) := by
  induction xs with
  | nil => rfl
  | cons x xs ih =>
    show (D.ret x && D.retAll (xs ++ ys)) = ((D.ret x && D.retAll xs) && D.retAll ys)
    rw [ih, Bool.and_assoc]
theorem dupAll_iff {xs : List D} : D.dupAll xs = true ↔ ∀ x ∈ xs, x.dup = true := by
  induction xs with
  | nil => exact ⟨fun _ _ z => (nomatch z), fun _ => rfl⟩
  | cons x xs ih =>
    show (D.dup x && D.dupAll xs) = true ↔ _
    rw [Bool.and_eq_true_iff, ih]
    simp
theorem retAll_iff {xs : List D} : D.retAll xs = true ↔ ∀ x ∈ xs, x.ret = true := by
  induction xs with
  | nil => exact ⟨fun _ _ z => (nomatch z), fun _ => rfl⟩
  | cons x xs ih =>
    show (D.ret x && D.retAll xs) = true ↔ _
    rw [Bool.and_eq_true_iff, ih]
    simp

/-! ### freezing -/
def frzH (H : Hp) (p : List Addr) (F : Hp) : Hp := fun a => if a ∈ p then H a else F a
theorem frzH_in {p : List Addr} {a : Addr} (h : a ∈ p) : frzH H p F a = H a := if_pos h
theorem frzH_out {p : List Addr} {a : Addr} (h : a ∉ p) : frzH H p F a = F a := if_neg h
mutual
theorem D.frz_ret : ∀ (d : D), d.ret = true → d.frz.ret = true
  | .lst .own _, _ => rfl
  | .lst .tmp _, z => nomatch z
  | .lst .frz _, _ => rfl
  | .lst .bor _, z => nomatch z
  | .tup xs, z => D.frzAll_ret xs z
  | .obj _ _, z => nomatch z
  | .scr _, z => nomatch z
  | .non, _ => rfl
  | .bl _, _ => rfl
  | .int _, _ => rfl
  | .str _, _ => rfl
  | .ins _ _, _ => rfl
theorem D.frzAll_ret : ∀ (xs : List D), D.retAll xs = true → D.retAll (D.frzAll xs) = true
  | [], _ => rfl
  | x :: xs, z => by
    obtain ⟨z1, z2⟩ := Bool.and_eq_true_iff.mp z
    exact Bool.and_eq_true_iff.mpr ⟨D.frz_ret x z1, D.frzAll_ret xs z2⟩
end
mutual
theorem D.frz_dup : ∀ (d : D), d.ret = true → d.frz.dup = true
  | .lst .own _, _ => rfl
  | .lst .tmp _, z => nomatch z
  | .lst .frz _, _ => rfl
  | .lst .bor _, z => nomatch z
  | .tup xs, z => D.frzAll_dup xs z
  | .obj _ _, z => nomatch z
  | .scr _, z => nomatch z
  | .non, _ => rfl
  | .bl _, _ => rfl
  | .int _, _ => rfl
  | .str _, _ => rfl
  | .ins _ _, _ => rfl
theorem D.frzAll_dup : ∀ (xs : List D), D.retAll xs = true → D.dupAll (D.frzAll xs) = true
  | [], _ => rfl
  | x :: xs, z => by
    obtain ⟨z1, z2⟩ := Bool.and_eq_true_iff.mp z
    exact Bool.and_eq_true_iff.mpr ⟨D.frz_dup x z1, D.frzAll_dup xs z2⟩
end
mutual
/-- F' holds what stands at p -/
theorem Dat.froz (sf : Same F F') (sb : Same B B') : ∀ {v : V} {d : D} {p : List Addr}, Dat G F B H v d p → d.ret = true → (∀ a ∈ p, F' a = H a) → Dat G F' B' H' v d.frz []
  | _, _, _, .non, _, _ => .non
  | _, _, _, .bl b, _, _ => .bl b
  | _, _, _, .int i, _, _ => .int i
  | _, _, _, .str x, _, _ => .str x
  | _, _, _, .frz e h c, _, k => (Dat.frz e h c).stay sf sb fun _ z => nomatch z
  | _, _, _, .own e n h c, _, k => .frz ((k _ List.mem_cons_self).trans e) (Dats.froz sf sb h c fun a z => k a (List.mem_cons_of_mem _ z)) (Bool.and_eq_true_iff.mpr ⟨D.frzAll_dup _ c, D.frzAll_ret _ c⟩)
  | _, _, _, .tmp e n h, z, _ => nomatch z
  | _, _, _, .bor _ _ _, z, _ => nomatch z
  | _, _, _, .tup e h, z, k => .tup (seqT_same sf e) (Dats.froz sf sb h z k)
  | _, _, _, .ins e m n h c, _, _ => (Dat.ins e m n h c).stay sf sb fun _ z => nomatch z
  | _, _, _, .obj _ _ _ _ _ _, z, _ => nomatch z
  | _, _, _, .scr _, z, _ => nomatch z
theorem Dats.froz (sf : Same F F') (sb : Same B B') : ∀ {vs : List V} {ds : List D} {p : List Addr}, Dats G F B H vs ds p → D.retAll ds = true → (∀ a ∈ p, F' a = H a) → Dats G F' B' H' vs (D.frzAll ds) []
  | _, _, _, .nil, _, _ => .nil
  | _, _, _, .cons h t, z, k => by
    obtain ⟨z1, z2⟩ := Bool.and_eq_true_iff.mp z
    exact .cons0 (Dat.froz sf sb h z1 fun a z => k a (List.mem_append_left _ z)) (Dats.froz sf sb t z2 fun a z => k a (List.mem_append_right _ z))
end
mutual
theorem D.ret_len : ∀ (d : D), d.ret = true → d.len = true
  | .lst .own _, _ => rfl
  | .lst .tmp _, z => nomatch z
  | .lst .frz _, _ => rfl
  | .lst .bor _, _ => rfl
  | .tup xs, z => D.retAll_len xs z
  | .obj _ _, z => nomatch z
  | .scr _, _ => rfl
  | .non, _ => rfl
  | .bl _, _ => rfl
  | .int _, _ => rfl
  | .str _, _ => rfl
  | .ins _ _, _ => rfl
theorem D.retAll_len : ∀ (xs : List D), D.retAll xs = true → D.lenAll xs = true
  | [], _ => rfl
  | x :: xs, z => by
    obtain ⟨z1, z2⟩ := Bool.and_eq_true_iff.mp z
    exact Bool.and_eq_true_iff.mpr ⟨D.ret_len x z1, D.retAll_len xs z2⟩
end
mutual
theorem D.lend_dup : ∀ (d : D), d.len = true → d.lend.dup = true
  | .lst .own _, _ => rfl
  | .lst .tmp _, z => rfl
  | .lst .frz _, _ => rfl
  | .lst .bor _, z => rfl
  | .tup xs, z => D.lendAll_dup xs z
  | .obj _ _, z => nomatch z
  | .scr _, z => rfl
  | .non, _ => rfl
  | .bl _, _ => rfl
  | .int _, _ => rfl
  | .str _, _ => rfl
  | .ins _ _, _ => rfl
theorem D.lendAll_dup : ∀ (xs : List D), D.lenAll xs = true → D.dupAll (D.lendAll xs) = true
  | [], _ => rfl
  | x :: xs, z => by
    obtain ⟨z1, z2⟩ := Bool.and_eq_true_iff.mp z
    exact Bool.and_eq_true_iff.mpr ⟨D.lend_dup x z1, D.lendAll_dup xs z2⟩
end
mutual
/-- lent: B' holds what stands at p -/
theorem Dat.lent (sf : Same F F') (sb : Same B B') : ∀ {v : V} {d : D} {p : List Addr}, Dat G F B H v d p → d.len = true → (∀ a ∈ p, B' a = H a) → Dat G F' B' H' v d.lend []
  | _, _, _, .non, _, _ => .non
  | _, _, _, .bl b, _, _ => .bl b
  | _, _, _, .int i, _, _ => .int i
  | _, _, _, .str x, _, _ => .str x
  | _, _, _, .frz e h c, _, k => (Dat.frz e h c).stay sf sb fun _ z => nomatch z
  | _, _, _, .own e n h c, _, k => .bor ((k _ List.mem_cons_self).trans e) (Dats.lent sf sb h (D.retAll_len _ c) fun a z => k a (List.mem_cons_of_mem _ z)) (D.lendAll_dup _ (D.retAll_len _ c))
  | _, _, _, .tmp e n h, z, k => .bor ((k _ List.mem_cons_self).trans e) (Dats.lent sf sb h z fun a z => k a (List.mem_cons_of_mem _ z)) (D.lendAll_dup _ z)
  | _, _, _, .bor e h c, _, _ => (Dat.bor e h c).stay sf sb fun _ z => nomatch z
  | _, _, _, .tup e h, z, k => .tup (seqT_same sf e) (Dats.lent sf sb h z k)
  | _, _, _, .ins e m n h c, _, _ => (Dat.ins e m n h c).stay sf sb fun _ z => nomatch z
  | _, _, _, .obj _ _ _ _ _ _, z, _ => nomatch z
  | _, _, _, .scr e, _, _ => .scr (sb.seq e)
theorem Dats.lent (sf : Same F F') (sb : Same B B') : ∀ {vs : List V} {ds : List D} {p : List Addr}, Dats G F B H vs ds p → D.lenAll ds = true → (∀ a ∈ p, B' a = H a) → Dats G F' B' H' vs (D.lendAll ds) []
  | _, _, _, .nil, _, _ => .nil
  | _, _, _, .cons h t, z, k => by
    obtain ⟨z1, z2⟩ := Bool.and_eq_true_iff.mp z
    exact .cons0 (Dat.lent sf sb h z1 fun a z => k a (List.mem_append_left _ z)) (Dats.lent sf sb t z2 fun a z => k a (List.mem_append_right _ z))
end
mutual
/-- what may be handed back stands without what was lent -/
theorem Dat.back (fb : Same F B) : ∀ {v : V} {d : D} {p : List Addr}, Dat G F B H v d p → d.ret = true → Dat G F F H v d p
  | _, _, _, .non, _ => .non
  | _, _, _, .bl b, _ => .bl b
  | _, _, _, .int i, _ => .int i
  | _, _, _, .str x, _ => .str x
  | _, _, _, .frz e h c, _ => .frz e (Dats.back fb h (Bool.and_eq_true_iff.mp c).2) c
  | _, _, _, .own e n h c, _ => .own e (fb.free n) (Dats.back fb h c) c
  | _, _, _, .tmp e n h, z => nomatch z
  | _, _, _, .bor e h c, z => nomatch z
  | _, _, _, .tup e h, z => .tup e (Dats.back fb h z)
  | _, _, _, .ins e m n h c, _ => .ins e m n (Dats.back fb h (Bool.and_eq_true_iff.mp c).2) c
  | _, _, _, .obj _ _ _ _ _ _, z => nomatch z
  | _, _, _, .scr e, z => nomatch z
theorem Dats.back (fb : Same F B) : ∀ {vs : List V} {ds : List D} {p : List Addr}, Dats G F B H vs ds p → D.retAll ds = true → Dats G F F H vs ds p
  | _, _, _, .nil, _ => .nil
  | _, _, _, .cons h t, z => by
    obtain ⟨z1, z2⟩ := Bool.and_eq_true_iff.mp z
    exact .cons (Dat.back fb h z1) (Dats.back fb t z2)
end

/-! ### how a heap goes on -/
structure Ext (F B H F' B' H' : Hp) : Prop where
  f : Same F F'
  b : Same B B'
  h : Same H H'
  fb : Same F' B'
  bh : Same B' H'
  of : ∀ a, H a ≠ none → F' a = F a
  ob : ∀ a, H a ≠ none → B' a = B a
theorem Ext.refl (fb : Same F B) (bh : Same B H) : Ext F B H F B H := ⟨.refl _, .refl _, .refl _, fb, bh, fun _ _ => rfl, fun _ _ => rfl⟩
theorem Same.there {H H' : Hp} (e : Same H H') {a : Addr} (h : H a ≠ none) : H' a ≠ none := by
  cases q : H a with
  | none => exact absurd q h
  | some o =>
    rw [e a o q]
    exact fun z => nomatch z
theorem Ext.trans {F2 B2 H2 : Hp} (x : Ext F B H F' B' H') (y : Ext F' B' H' F2 B2 H2) : Ext F B H F2 B2 H2 :=
  ⟨x.f.trans y.f, x.b.trans y.b, x.h.trans y.h, y.fb, y.bh, fun a n => (y.of a (Same.there x.h n)).trans (x.of a n), fun a n => (y.ob a (Same.there x.h n)).trans (x.ob a n)⟩
theorem Ext.at {a : Addr} (x : Ext F B H F' B' H') (n : H a ≠ none) : H' a = H a := by
  cases q : H a with
  | none => exact absurd q n
  | some o => exact x.h a o q
theorem Dat.ext {v : V} {d : D} {p : List Addr} (x : Ext F B H F' B' H') (h : Dat G F B H v d p) : Dat G F' B' H' v d p :=
  h.stay x.f x.b fun a z => ⟨x.at (h.foot a z).1, (x.ob a (h.foot a z).1).trans (h.foot a z).2⟩
theorem Dats.ext {vs : List V} {ds : List D} {p : List Addr} (x : Ext F B H F' B' H') (h : Dats G F B H vs ds p) : Dats G F' B' H' vs ds p :=
  h.stay x.f x.b fun a z => ⟨x.at (h.foot a z).1, (x.ob a (h.foot a z).1).trans (h.foot a z).2⟩
theorem same_upd {H : Hp} {p : Addr} {o : HO} (h : H p = none) : Same H (upd H p o) := fun b x e => by
  rw [upd_ne (ne_of_none e h)]
  exact e
/-- a new object that stays as it is -/
theorem Ext.imm {a : Addr} {o : HO} (fb : Same F B) (bh : Same B H) (n : H a = none) : Ext F B H (upd F a o) (upd B a o) (upd H a o) := by
  have nb : B a = none := bh.free n
  have nf : F a = none := fb.free nb
  refine ⟨same_upd nf, same_upd nb, same_upd n, fun b x e => ?_, fun b x e => ?_, fun b m => ?_, fun b m => ?_⟩
  · by_cases h : b = a
    · subst h; rw [upd_same] at e ⊢; exact e
    · rw [upd_ne h] at e ⊢; exact fb _ _ e
  · by_cases h : b = a
    · subst h; rw [upd_same] at e ⊢; exact e
    · rw [upd_ne h] at e ⊢; exact bh _ _ e
  · exact upd_ne fun z => m (z ▸ n)
  · exact upd_ne fun z => m (z ▸ n)
/-- a new object that is own -/
theorem Ext.new {a : Addr} {o : HO} (fb : Same F B) (bh : Same B H) (n : H a = none) : Ext F B H F B (upd H a o) :=
  ⟨.refl _, .refl _, same_upd n, fb, bh.trans (same_upd n), fun _ _ => rfl, fun _ _ => rfl⟩
theorem mem_frzH {p : List Addr} (hp : ∀ a ∈ p, F a = none) : Same F (frzH H p F) := fun b o e => by
  by_cases h : b ∈ p
  · rw [hp b h] at e; cases e
  · rw [frzH_out h]; exact e
/-- own lists that are new are frozen -/
theorem Ext.freeze {p : List Addr} (fb : Same F' B') (bh : Same B' H') (x : Ext F B H F' B' H') (new : ∀ a ∈ p, H a = none) (foot : ∀ a ∈ p, B' a = none) : Ext F B H (frzH H' p F') (frzH H' p B') H' := by
  have ff : ∀ a ∈ p, F' a = none := fun a z => fb.free (foot a z)
  refine ⟨x.f.trans (mem_frzH ff), x.b.trans (mem_frzH foot), x.h, fun b o e => ?_, fun b o e => ?_, fun a m => ?_, fun a m => ?_⟩
  · by_cases h : b ∈ p
    · rw [frzH_in h] at e ⊢; exact e
    · rw [frzH_out h] at e ⊢; exact fb _ _ e
  · by_cases h : b ∈ p
    · rw [frzH_in h] at e; exact e
    · rw [frzH_out h] at e; exact bh _ _ e
  · rw [frzH_out fun z => m (new a z)]; exact x.of a m
  · rw [frzH_out fun z => m (new a z)]; exact x.ob a m
end
end DH
namespace DH
open PySem L2

inductive Res (α : Type) where
  | ok (a : α)
  | err (c : Str) (fs : List (Str × V))
  | stuck
def Res.bind {α β : Type} : Res α → (α → Res β) → Res β
  | .ok a, g => g a
  | .err c fs, _ => .err c fs
  | .stuck, _ => .stuck
theorem Res.bind_ok {α β : Type} (a : α) (g : α → Res β) : (Res.ok a).bind g = g a := rfl
theorem Res.bind_err {α β : Type} (c : Str) (fs : List (Str × V)) (g : α → Res β) : (Res.err c fs : Res α).bind g = .err c fs := rfl
theorem Res.bind_stuck {α β : Type} (g : α → Res β) : (Res.stuck : Res α).bind g = .stuck := rfl

abbrev Rho := List (Option D)

inductive Slots (G : Tx) (F B H : Hp) : St → Rho → List Addr → Prop
  | nil : Slots G F B H [] [] []
  | un {x : Option V} {σ : St} {ρ : Rho} {p : List Addr} : Slots G F B H σ ρ p → Slots G F B H (x :: σ) (none :: ρ) p
  | val {v : V} {d : D} {σ : St} {ρ : Rho} {p q : List Addr} : Dat G F B H v d p → Slots G F B H σ ρ q → Slots G F B H (some v :: σ) (some d :: ρ) (p ++ q)

structure Base (G : Gam) (F B H : Hp) : Prop where
  f0 : Same G.F0 F
  fb : Same F B
  bh : Same B H
  h0 : Same G.H0 B
  of0 : ∀ a, G.H0 a ≠ none → F a = G.F0 a
def PinnedL : List (Nat × Addr) → St → Prop
  | [], _ => True
  | p :: r, σ => σ[p.1]? = some (some (.ref p.2)) ∧ PinnedL r σ
abbrev Pinned (G : Gam) (σ : St) : Prop := PinnedL G.pin σ
def PinOkL : List (Nat × Addr) → Nat → Prop
  | [], _ => True
  | p :: r, i => i ≠ p.1 ∧ PinOkL r i
abbrev PinOk (G : Gam) (i : Nat) : Prop := PinOkL G.pin i
theorem PinnedL.set {σ : St} {i : Nat} {x : Option V} : ∀ {l : List (Nat × Addr)}, PinnedL l σ → PinOkL l i → PinnedL l (σ.set i x)
  | [], _, _ => trivial
  | p :: r, h, k => ⟨by rw [List.getElem?_set_ne k.1]; exact h.1, PinnedL.set h.2 k.2⟩
theorem Pinned.set {G : Gam} {σ : St} {i : Nat} {x : Option V} (h : Pinned G σ) (p : PinOk G i) : Pinned G (σ.set i x) := PinnedL.set h p
structure RelS (G : Gam) (ρ : Rho) (F B : Hp) (σ : St) (H : Hp) : Prop where
  base : Base G F B H
  slots : ∃ fp, Slots G.T F B H σ ρ fp ∧ fp.Nodup
  pin : Pinned G σ

section
variable {G : Gam} {F B H F' B' H' : Hp} {σ : St} {ρ : Rho}
theorem Base.ext (b : Base G F B H) (x : Ext F B H F' B' H') : Base G F' B' H' :=
  ⟨b.f0.trans x.f, x.fb, x.bh, b.h0.trans x.b, fun a n => (x.of a (Same.there (b.h0.trans b.bh) n)).trans (b.of0 a n)⟩
theorem Slots.stay (sf : Same F F') (sb : Same B B') : ∀ {σ : St} {ρ : Rho} {p : List Addr}, Slots G.T F B H σ ρ p → (∀ a ∈ p, H' a = H a ∧ B' a = none) → Slots G.T F' B' H' σ ρ p
  | _, _, _, .nil, _ => .nil
  | _, _, _, .un t, k => .un (t.stay sf sb k)
  | _, _, _, .val h t, k => .val (h.stay sf sb fun a z => k a (List.mem_append_left _ z)) (t.stay sf sb fun a z => k a (List.mem_append_right _ z))
theorem Slots.foot : ∀ {σ : St} {ρ : Rho} {p : List Addr}, Slots G.T F B H σ ρ p → ∀ a ∈ p, H a ≠ none ∧ B a = none
  | _, _, _, .nil, _, z => nomatch z
  | _, _, _, .un t, a, z => t.foot a z
  | _, _, _, .val h t, a, z => by
    rcases List.mem_append.mp z with z | z
    · exact h.foot a z
    · exact t.foot a z
theorem Slots.ext {p : List Addr} (x : Ext F B H F' B' H') (h : Slots G.T F B H σ ρ p) : Slots G.T F' B' H' σ ρ p :=
  h.stay x.f x.b fun a z => ⟨x.at (h.foot a z).1, (x.ob a (h.foot a z).1).trans (h.foot a z).2⟩
theorem RelS.ext (r : RelS G ρ F B σ H) (x : Ext F B H F' B' H') : RelS G ρ F' B' σ H' :=
  ⟨r.base.ext x, let ⟨fp, h, n⟩ := r.slots; ⟨fp, h.ext x, n⟩, r.pin⟩
theorem RelS.rfl (r : RelS G ρ F B σ H) : Ext F B H F B H := .refl r.base.fb r.base.bh
theorem Slots.get : ∀ {σ : St} {ρ : Rho} {p : List Addr} {i : Nat} {d : D}, Slots G.T F B H σ ρ p → ρ[i]? = some (some d) → ∃ v q, σ[i]? = some (some v) ∧ Dat G.T F B H v d q ∧ (∀ a ∈ q, a ∈ p) ∧ (p.Nodup → q.Nodup)
  | _, _, _, _, _, .nil, e => by simp at e
  | _, _, _, 0, _, .un t, e => by simp at e
  | _, _, _, i + 1, _, .un t, e => by
    obtain ⟨v, q, e1, h, k⟩ := t.get (i := i) (by simpa using e)
    exact ⟨v, q, by simpa using e1, h, k⟩
  | _, _, _, 0, _, .val h t, e => by
    simp at e; subst e
    exact ⟨_, _, by simp, h, fun a z => List.mem_append_left _ z, fun n => (List.nodup_append.mp n).1⟩
  | _, _, _, i + 1, _, .val h t, e => by
    obtain ⟨v, q, e1, h', k, n'⟩ := t.get (i := i) (by simpa using e)
    exact ⟨v, q, by simpa using e1, h', fun a z => List.mem_append_right _ (k a z), fun n => n' (List.nodup_append.mp n).2.1⟩
theorem Slots.length : ∀ {σ : St} {ρ : Rho} {p : List Addr}, Slots G.T F B H σ ρ p → σ.length = ρ.length
  | _, _, _, .nil => by rfl
  | _, _, _, .un t => congrArg (· + 1) t.length
  | _, _, _, .val _ t => congrArg (· + 1) t.length
/-- a slot is stored; its old value goes -/
theorem Slots.set {v : V} {d : D} {r : List Addr} (h : Dat G.T F B H v d r) : ∀ {σ : St} {ρ : Rho} {p : List Addr} {i : Nat}, Slots G.T F B H σ ρ p → i < ρ.length → p.Nodup → r.Nodup → (∀ a ∈ r, a ∉ p) →
    ∃ q, Slots G.T F B H (σ.set i (some v)) (ρ.set i (some d)) q ∧ q.Nodup ∧ ∀ a ∈ q, a ∈ p ∨ a ∈ r
  | _, _, _, _, .nil, hi, _, _, _ => by simp at hi
  | _, _, _, 0, .un t, _, np, nr, k => ⟨_, .val h t, List.nodup_append.mpr ⟨nr, np, fun a z b y e => k a z (e ▸ y)⟩, fun a z => (List.mem_append.mp z).symm⟩
  | _, _, _, 0, .val h' t, _, np, nr, k => by
    have np2 := (List.nodup_append.mp np).2.1
    exact ⟨_, .val h t, List.nodup_append.mpr ⟨nr, np2, fun a z b y e => k a z (e ▸ List.mem_append_right _ y)⟩, fun a z => (List.mem_append.mp z).elim .inr fun z => .inl (List.mem_append_right _ z)⟩
  | _, _, _, i + 1, .un t, hi, np, nr, k => by
    obtain ⟨q, s, nq, kq⟩ := t.set h (i := i) (by simpa using hi) np nr k
    exact ⟨q, .un s, nq, kq⟩
  | _, _, _, i + 1, .val (p := p1) h' t, hi, np, nr, k => by
    obtain ⟨n1, n2, n3⟩ := List.nodup_append.mp np
    obtain ⟨q, s, nq, kq⟩ := t.set h (i := i) (by simpa using hi) n2 nr fun a z y => k a z (List.mem_append_right _ y)
    refine ⟨_, .val h' s, List.nodup_append.mpr ⟨n1, nq, fun a z b y e => ?_⟩, fun a z => ?_⟩
    · subst e
      rcases kq _ y with y | y
      · exact n3 _ z _ y rfl
      · exact k _ y (List.mem_append_left _ z)
    · rcases List.mem_append.mp z with z | z
      · exact .inl (List.mem_append_left _ z)
      · exact (kq a z).imp (fun z => List.mem_append_right _ z) id
theorem Slots.forget : ∀ {σ : St} {ρ : Rho} {p : List Addr} (i : Nat) (x : Option V), Slots G.T F B H σ ρ p → p.Nodup →
    ∃ q, Slots G.T F B H (σ.set i x) (ρ.set i none) q ∧ q.Nodup ∧ ∀ a ∈ q, a ∈ p
  | _, _, _, i, x, .nil, n => ⟨_, by simpa using Slots.nil, n, fun _ z => z⟩
  | _, _, _, 0, x, .un t, n => ⟨_, .un t, n, fun _ z => z⟩
  | _, _, _, 0, x, .val h t, n => ⟨_, .un t, (List.nodup_append.mp n).2.1, fun a z => List.mem_append_right _ z⟩
  | _, _, _, i + 1, x, .un t, n => by
    obtain ⟨q, s, nq, k⟩ := t.forget i x n
    exact ⟨q, .un s, nq, k⟩
  | _, _, _, i + 1, x, .val h t, n => by
    obtain ⟨n1, n2, n3⟩ := List.nodup_append.mp n
    obtain ⟨q, s, nq, k⟩ := t.forget i x n2
    refine ⟨_, .val h s, List.nodup_append.mpr ⟨n1, nq, fun a z b y => n3 a z b (k b y)⟩, fun a z => ?_⟩
    rcases List.mem_append.mp z with z | z
    · exact List.mem_append_left _ z
    · exact List.mem_append_right _ (k a z)
end

/-! ### readings -/
/-- an exception of the class named c with the fields fs -/
def ExcAt (G : Tx) (c : Str) (fs : List (Str × V)) (cv : Value) (x : Option Addr) (H : Hp) : Prop :=
  ∃ C, G.mg c = some (.ref C) ∧ cv = .ref C ∧ match fs with
    | [] => x = none
    | f :: r => ∃ dd, x = some dd ∧ H dd = some (.xd (f :: r))
def kE {α : Type} (G : Tx) (W : WX) (σ : St) (F B H : Hp) (r : Res α) (K : α → Hp → Hp → Hp → Prop) : Prop := match r with
  | .ok a => ∀ F' B' H', Ext F B H F' B' H' → K a F' B' H'
  | .err c fs => ∀ cv x F' B' H', Ext F B H F' B' H' → ExcAt G c fs cv x H' → W cv x σ H'
  | .stuck => False
def tB (G : Gam) (W : WX) (f : Rho → Res D) : TE := fun σ H Q => ∃ ρ F B, RelS G ρ F B σ H ∧ kE G.T W σ F B H (f ρ) fun d F' B' H' => ∀ v p, Dat G.T F' B' H' v d p → Q v H'
def tV (G : Gam) (W : WX) (f : Rho → Res D) : TE := fun σ H Q => ∃ ρ F B, RelS G ρ F B σ H ∧ kE G.T W σ F B H (f ρ) fun d F' B' H' => ∀ v p, Dat G.T F' B' H' v d p → p.Nodup → (∀ a ∈ p, H a = none) → Q v H'
def tT (G : Gam) (W : WX) (f : Rho → Res Bool) : TT := fun σ H Q => ∃ ρ F B, RelS G ρ F B σ H ∧ kE G.T W σ F B H (f ρ) fun b _ _ H' => Q b H'
def tA (G : Gam) (W : WX) (f : Rho → Res (List D)) : TA := fun σ H Q => ∃ ρ F B, RelS G ρ F B σ H ∧ kE G.T W σ F B H (f ρ) fun ds F' B' H' => ∀ vs p, Dats G.T F' B' H' vs ds p → Q vs H'
def tAV (G : Gam) (W : WX) (f : Rho → Res (List D)) : TA := fun σ H Q => ∃ ρ F B, RelS G ρ F B σ H ∧ kE G.T W σ F B H (f ρ) fun ds F' B' H' => ∀ vs p, Dats G.T F' B' H' vs ds p → p.Nodup → (∀ a ∈ p, H a = none) → Q vs H'

/-- read: the value may hold what others hold; made: what is own in it is new -/
abbrev EB (G : Gam) (X : Cx) (W : WX) (e : Expr) (f : Rho → Res D) : Prop := PE X e (tB G W f)
abbrev EV (G : Gam) (X : Cx) (W : WX) (e : Expr) (f : Rho → Res D) : Prop := PE X e (tV G W f)
abbrev ET (G : Gam) (X : Cx) (W : WX) (e : Expr) (f : Rho → Res Bool) : Prop := PT X e (tT G W f)
abbrev EA (G : Gam) (X : Cx) (W : WX) (es : List Expr) (f : Rho → Res (List D)) : Prop := PA X es (tA G W f)
abbrev EAV (G : Gam) (X : Cx) (W : WX) (es : List Expr) (f : Rho → Res (List D)) : Prop := PA X es (tAV G W f)

theorem pe_pre {X : Cx} {e : Expr} {t t' : TE} (h : PE X e t) (k : ∀ σ H Q, t' σ H Q → t σ H Q) : PE X e t' := ⟨fun pins s σ H Q I q => h.run pins s σ H Q I (k σ H Q q)⟩
theorem pt_pre {X : Cx} {e : Expr} {t t' : TT} (h : PT X e t) (k : ∀ σ H Q, t' σ H Q → t σ H Q) : PT X e t' := ⟨fun pins s σ H Q I q => h.run pins s σ H Q I (k σ H Q q)⟩
theorem pw_pre {X : Cx} {e : Expr} {t t' : TT} (h : PW X e t) (k : ∀ σ H Q, t' σ H Q → t σ H Q) : PW X e t' := ⟨fun wh pins s σ H Q I q => h.run wh pins s σ H Q I (k σ H Q q)⟩
theorem pa_pre {X : Cx} {e : List Expr} {t t' : TA} (h : PA X e t) (k : ∀ σ H Q, t' σ H Q → t σ H Q) : PA X e t' := ⟨fun pos pins s σ H Q I q => h.run pos pins s σ H Q I (k σ H Q q)⟩
theorem ps_pre {X : Cx} {e : Stmt} {t t' : TS} (h : PS X e t) (k : ∀ D σ H, t' D σ H → t D σ H) : PS X e t' := ⟨fun pins s σ H D I q => h.run pins s σ H D I (k D σ H q)⟩
theorem pss_pre {X : Cx} {e : List Stmt} {t t' : TS} (h : PSs X e t) (k : ∀ D σ H, t' D σ H → t D σ H) : PSs X e t' := ⟨fun pins s σ H D I q => h.run pins s σ H D I (k D σ H q)⟩

section
variable {G : Gam} {W : WX} {X : Cx} {F B H : Hp} {σ : St} {α β : Type}
theorem kE.bind {r : Res α} {g : α → Res β} {K : β → Hp → Hp → Hp → Prop} (h : kE G.T W σ F B H (r.bind g) K) : kE G.T W σ F B H r fun a F1 B1 H1 => kE G.T W σ F1 B1 H1 (g a) K := by
  cases r with
  | ok a =>
    intro F1 B1 H1 x
    have h : kE G.T W σ F B H (g a) K := h
    show kE G.T W σ F1 B1 H1 (g a) K
    cases q : g a with
    | ok b =>
      rw [q] at h
      exact fun F' B' H' y => h F' B' H' (x.trans y)
    | err c fs =>
      rw [q] at h
      exact fun cv z F' B' H' y => h cv z F' B' H' (x.trans y)
    | stuck => rw [q] at h; exact h
  | err c fs => exact h
  | stuck => exact h
theorem kE.mono {r : Res α} {K K' : α → Hp → Hp → Hp → Prop} (h : kE G.T W σ F B H r K) (k : ∀ a F' B' H', Ext F B H F' B' H' → K a F' B' H' → K' a F' B' H') : kE G.T W σ F B H r K' := by
  cases r with
  | ok a => exact fun F' B' H' x => k a F' B' H' x (h F' B' H' x)
  | err c fs => exact h
  | stuck => exact h
/-- where it is known to stand still -/
theorem kE.ok {a : α} {K : α → Hp → Hp → Hp → Prop} (fb : Same F B) (bh : Same B H) (h : kE G.T W σ F B H (.ok a) K) : K a F B H := h F B H (.refl fb bh)
theorem EV.b {e : Expr} {f : Rho → Res D} (h : EV G X W e f) : EB G X W e f := pe_pre h fun σ H Q ⟨ρ, F, B, r, k⟩ => ⟨ρ, F, B, r, k.mono fun d F' B' H' _ q v p hd _ _ => q v p hd⟩
/-- what is read is made where it holds nothing own -/
def eDup (f : Rho → Res D) : Rho → Res D := fun ρ => (f ρ).bind fun d => if d.dup then .ok d else .stuck
theorem EB.v {e : Expr} {f : Rho → Res D} (h : EB G X W e f) : EV G X W e (eDup f) := pe_pre h fun σ H Q ⟨ρ, F, B, r, k⟩ => ⟨ρ, F, B, r, (kE.bind k).mono fun d F' B' H' x q v p hd => by
  by_cases c : d.dup = true
  · rw [if_pos c] at q
    have e := hd.fp_dup c
    subst e
    exact (kE.ok x.fb x.bh q) v [] hd List.nodup_nil fun _ z => nomatch z
  · rw [if_neg c] at q
    exact q.elim⟩
/-- .. or where it is frozen -/
def eFrz (f : Rho → Res D) : Rho → Res D := fun ρ => (f ρ).bind fun d => if d.ret then .ok d.frz else .stuck
theorem Dat.frozen {v : V} {d : D} {p : List Addr} {F' B' H' : Hp} (hd : Dat G.T F' B' H' v d p) (c : d.ret = true) (fb : Same F' B') : Dat G.T (frzH H' p F') (frzH H' p B') H' v d.frz [] :=
  hd.froz (mem_frzH fun a z => fb.free (hd.foot a z).2) (mem_frzH fun a z => (hd.foot a z).2) c fun a z => frzH_in z
theorem EV.frz {e : Expr} {f : Rho → Res D} (h : EV G X W e f) : EV G X W e (eFrz f) := pe_pre h fun σ H Q ⟨ρ, F, B, r, k⟩ => ⟨ρ, F, B, r, by
  unfold eFrz at k
  cases q : f ρ with
  | ok d =>
    rw [q] at k
    have k : kE G.T W σ F B H (if d.ret then .ok d.frz else .stuck) _ := k
    by_cases c : d.ret = true
    · rw [if_pos c] at k
      intro F' B' H' x v p hd nd new
      exact k _ _ _ (Ext.freeze x.fb x.bh x new fun a z => (hd.foot a z).2) v [] (hd.frozen c x.fb) List.nodup_nil fun _ z => nomatch z
    · rw [if_neg c] at k
      exact k.elim
  | err c fs => rw [q] at k; exact k
  | stuck => rw [q] at k; exact k⟩

/-! ### names, constants -/
def eVar (i : Nat) : Rho → Res D := fun ρ => match ρ[i]? with
  | some (some d) => .ok d
  | _ => .stuck
def eC (d : D) : Rho → Res D := fun _ => .ok d
theorem eb_var (i : Nat) {x : Str} {pos : Pos} (hN : X.N[i]? = some x := by rfl) (hv : Vis X.env.scope x := by first | exact Or.inl rfl | exact Or.inr (Or.inl rfl) | exact Or.inr (Or.inr rfl)) (hd : (x == ("__debug__" : Str)) = false := by decide)
    (hcd : (x == ("__classdict__" : Str)) = false := by decide) : EB G X W (.Name x pos) (eVar i) := pe_pre (pe_var hN hv hd hcd) fun σ H Q ⟨ρ, F, B, r, k⟩ => by
  unfold eVar at k
  split at k
  · rename_i d e
    obtain ⟨fp, s, n⟩ := r.slots
    obtain ⟨v, q, e1, h, _⟩ := s.get e
    exact ⟨v, e1, (kE.ok r.base.fb r.base.bh k) v q h⟩
  · exact k.elim
theorem ev_int {i : Int} {j : Nat} {pos : Pos} : EV G X W (.Constant (.int i) j pos) (eC (.int i)) := pe_pre pe_int fun σ H Q ⟨ρ, F, B, r, k⟩ => (kE.ok r.base.fb r.base.bh k) _ [] (.int i) List.nodup_nil fun _ z => nomatch z
theorem ev_bl {b : Bool} {j : Nat} {pos : Pos} : EV G X W (.Constant (.bool b) j pos) (eC (.bl b)) := pe_pre pe_bl fun σ H Q ⟨ρ, F, B, r, k⟩ => (kE.ok r.base.fb r.base.bh k) _ [] (.bl b) List.nodup_nil fun _ z => nomatch z
theorem ev_non {j : Nat} {pos : Pos} : EV G X W (.Constant .none j pos) (eC .non) := pe_pre pe_non fun σ H Q ⟨ρ, F, B, r, k⟩ => (kE.ok r.base.fb r.base.bh k) _ [] .non List.nodup_nil fun _ z => nomatch z
theorem ev_str {x : Str} {j : Nat} {pos : Pos} : EV G X W (.Constant (.str x) j pos) (eC (.str x)) := pe_pre pe_str fun σ H Q ⟨ρ, F, B, r, k⟩ => (kE.ok r.base.fb r.base.bh k) _ [] (.str x) List.nodup_nil fun _ z => nomatch z
/-- a scalar -/
def sV : D → Option V
  | .non => some .non
  | .bl b => some (.bl b)
  | .int i => some (.int i)
  | .str x => some (.str x)
  | _ => none
theorem sV_dat {d : D} {v : V} (h : sV d = some v) : Dat G.T F B H v d [] := by
  cases d <;> simp [sV] at h <;> subst h <;> constructor
theorem Dat.sV {d : D} {v w : V} {p : List Addr} (h : Dat G.T F B H v d p) (e : DH.sV d = some w) : v = w := by
  cases d <;> simp [DH.sV] at e <;> subst e <;> cases h <;> rfl
theorem ev_glob {x : Str} {d : D} {v : V} {u : Value} {pos : Pos} (hm : X.mg x = some u) (r : RelV v u) (hs : sV d = some v := by rfl) (hg : Gl X x := by rfl) (hd : (x == ("__debug__" : Str)) = false := by decide) : EV G X W (.Name x pos) (eC d) :=
  pe_pre (pe_glob hg hm r hd) fun σ H Q ⟨ρ, F, B, r, k⟩ => (kE.ok r.base.fb r.base.bh k) v [] (sV_dat hs) List.nodup_nil fun _ z => nomatch z

/-! ### operators -/
def eB2 (g : D → D → Res D) (a b : Rho → Res D) : Rho → Res D := fun ρ => (a ρ).bind fun x => (b ρ).bind fun y => g x y
def eU1 (g : D → Res D) (a : Rho → Res D) : Rho → Res D := fun ρ => (a ρ).bind fun x => g x
/-- a relation of HandS is kept by a function over data -/
def Op2 (G : Gam) (r : R2) (g : D → D → Res D) : Prop := ∀ (W : WX) (σ : St) (F B H : Hp) (x y : V) (d e : D) (p q : List Addr) (Q : VK), Base G F B H → Dat G.T F B H x d p → Dat G.T F B H y e q →
  kE G.T W σ F B H (g d e) (fun c F' B' H' => ∀ v p, Dat G.T F' B' H' v c p → p.Nodup → (∀ a ∈ p, H a = none) → Q v H') → r x y H Q
/-- .. whose answer is read -/
def Op2B (G : Gam) (r : R2) (g : D → D → Res D) : Prop := ∀ (W : WX) (σ : St) (F B H : Hp) (x y : V) (d e : D) (p q : List Addr) (Q : VK), Base G F B H → Dat G.T F B H x d p → Dat G.T F B H y e q →
  kE G.T W σ F B H (g d e) (fun c F' B' H' => ∀ v p, Dat G.T F' B' H' v c p → Q v H') → r x y H Q
theorem two_run {r : R2} {a b : Rho → Res D} {g : D → D → Res D} {ρ : Rho} {Q : VK} (ho : Op2 G r g) (rel : RelS G ρ F B σ H)
    (k : kE G.T W σ F B H (eB2 g a b ρ) fun d F' B' H' => ∀ v p, Dat G.T F' B' H' v d p → p.Nodup → (∀ a ∈ p, H a = none) → Q v H') : tOp r (tB G W a) (tB G W b) σ H Q := by
  refine ⟨ρ, F, B, rel, (kE.bind k).mono fun d F1 B1 H1 x k1 v p hd => ⟨ρ, F1, B1, rel.ext x, (kE.bind k1).mono fun e F2 B2 H2 y k2 w q he => ?_⟩⟩
  refine ho W σ F2 B2 H2 v w d e p q Q ((rel.ext x).base.ext y) (hd.ext y) he (k2.mono fun c F3 B3 H3 z k3 v' p' hc np new => k3 v' p' hc np fun a m => ?_)
  exact (x.trans y).h.free (new a m)
theorem two_runB {r : R2} {a b : Rho → Res D} {g : D → D → Res D} {ρ : Rho} {Q : VK} (ho : Op2B G r g) (rel : RelS G ρ F B σ H)
    (k : kE G.T W σ F B H (eB2 g a b ρ) fun d F' B' H' => ∀ v p, Dat G.T F' B' H' v d p → Q v H') : tOp r (tB G W a) (tB G W b) σ H Q := by
  refine ⟨ρ, F, B, rel, (kE.bind k).mono fun d F1 B1 H1 x k1 v p hd => ⟨ρ, F1, B1, rel.ext x, (kE.bind k1).mono fun e F2 B2 H2 y k2 w q he => ?_⟩⟩
  exact ho W σ F2 B2 H2 v w d e p q Q ((rel.ext x).base.ext y) (hd.ext y) he k2
variable {a b : Expr} {fa fb : Rho → Res D} {pos : Pos}
theorem ev_op {op : Operator} {r : R2} {g : D → D → Res D} (hr : OpR X (binaryOp op) r) (ho : Op2 G r g) (ha : EB G X W a fa) (hb : EB G X W b fb) : EV G X W (.BinOp a op b pos) (eB2 g fa fb) :=
  pe_pre (pe_op hr ha hb) fun σ H Q ⟨ρ, F, B, rel, k⟩ => two_run ho rel k
theorem ev_cmp {op : CmpOp} {r : R2} {g : D → D → Res D} (hr : OpR X (compareOp op) r) (ho : Op2 G r g) (ha : EB G X W a fa) (hb : EB G X W b fb) (hm : behindInMarks op b = false) : EV G X W (.Compare a [op] [b] pos) (eB2 g fa fb) :=
  pe_pre (pe_cmpR hr ha hb hm) fun σ H Q ⟨ρ, F, B, rel, k⟩ => two_run ho rel k
/-- where the answer is a scalar -/
theorem Op2.sc {r : R2} {g : D → D → Res D} (h : ∀ (F B H : Hp) (x y : V) (d e : D) (p q : List Addr) (Q : VK) (c : D), Base G F B H → Dat G.T F B H x d p → Dat G.T F B H y e q → g d e = .ok c → (∀ v, sV c = some v → Q v H) → r x y H Q)
    (hn : ∀ d e c fs, g d e ≠ .err c fs) : Op2 G r g := fun W σ F B H x y d e p q Q b hd he k => by
  cases z : g d e with
  | ok c =>
    rw [z] at k
    exact h F B H x y d e p q Q c b hd he z fun v s => (kE.ok b.fb b.bh k) v [] (sV_dat s) List.nodup_nil fun _ z => nomatch z
  | err c fs => exact absurd z (hn d e c fs)
  | stuck => rw [z] at k; exact k.elim
theorem Op2.or1 {r r' : R2} {g : D → D → Res D} (h : Op2 G r g) : Op2 G (fun x y H Q => r x y H Q ∨ r' x y H Q) g := fun W σ F B H x y d e p q Q b hd he k => .inl (h W σ F B H x y d e p q Q b hd he k)
end

/-! ### whole numbers -/
def LINE : Nat := 16777216
theorem line_eq : sizeLine = LINE := sizeLine_eq
def iOp (g : Int → Int → Res D) : D → D → Res D
  | .int i, .int j => g i j
  | _, _ => .stuck
def subD : D → D → Res D := iOp fun i j => .ok (.int (i - j))
def bigI : Int := 18446744073709551616
def mulOk (i j : Int) : Bool := (decide (-bigI < i) && decide (i < bigI)) || (decide (-bigI < j) && decide (j < bigI))
def fdivI (i j : Int) : Res D := if j ≠ 0 ∧ j.natAbs < 1073741824 then .ok (.int (i.fdiv j)) else .stuck
def fdivD : D → D → Res D := iOp fdivI
def modI (i j : Int) : Res D := if j ≠ 0 then .ok (.int (i.fmod j)) else .stuck
def modD : D → D → Res D := iOp modI
def powI (i j : Int) : Res D := if 0 ≤ j ∧ j ≤ 1000000 ∧ i.natAbs < 18446744073709551616 then .ok (.int (i ^ j.toNat)) else .stuck
def powD : D → D → Res D := iOp powI
def ltD : D → D → Res D := iOp fun i j => .ok (.bl (decide (i < j)))
def leD : D → D → Res D := iOp fun i j => .ok (.bl (decide (i ≤ j)))
def gtD : D → D → Res D := iOp fun i j => .ok (.bl (decide (j < i)))
def geD : D → D → Res D := iOp fun i j => .ok (.bl (decide (j ≤ i)))
section
variable {G : Gam}
theorem iOp_ok {g : Int → Int → Res D} {d e : D} {c : D} (h : iOp g d e = .ok c) : ∃ i j, d = .int i ∧ e = .int j ∧ g i j = .ok c := by
  unfold iOp at h
  split at h
  · exact ⟨_, _, rfl, rfl, h⟩
  · cases h
theorem iOp_ne {g : Int → Int → Res D} (hg : ∀ i j c fs, g i j ≠ .err c fs) (d e : D) (c : Str) (fs : List (Str × V)) : iOp g d e ≠ .err c fs := by
  unfold iOp
  split
  · exact hg _ _ _ _
  · exact fun z => nomatch z
theorem Dat.toInt {F B H : Hp} {x : V} {i : Int} {p : List Addr} (h : Dat G.T F B H x (.int i) p) : x = .int i := by cases h; rfl
theorem op2_sub : Op2 G (rI0 fun i j => .int (i - j)) subD := Op2.sc (fun F B H x y d e p q Q c b hd he z k => by
  obtain ⟨i, j, rfl, rfl, z2⟩ := iOp_ok z
  cases z2
  exact ⟨i, j, hd.toInt, he.toInt, k _ rfl⟩) (iOp_ne fun _ _ _ _ z => nomatch z)
theorem op2_fdiv : Op2 G (rI CDivN fun i j => .int (i.fdiv j)) fdivD := Op2.sc (fun F B H x y d e p q Q c b hd he z k => by
  obtain ⟨i, j, rfl, rfl, z2⟩ := iOp_ok z
  unfold fdivI at z2
  split at z2
  · rename_i c0
    cases z2
    exact ⟨i, j, hd.toInt, he.toInt, c0, k _ rfl⟩
  · cases z2) (iOp_ne fun _ _ _ _ z => by unfold fdivI at z; split at z <;> cases z)
theorem op2_mod : Op2 G (rI (fun _ j => j ≠ 0) fun i j => .int (i.fmod j)) modD := Op2.sc (fun F B H x y d e p q Q c b hd he z k => by
  obtain ⟨i, j, rfl, rfl, z2⟩ := iOp_ok z
  unfold modI at z2
  split at z2
  · rename_i c0
    cases z2
    exact ⟨i, j, hd.toInt, he.toInt, c0, k _ rfl⟩
  · cases z2) (iOp_ne fun _ _ _ _ z => by unfold modI at z; split at z <;> cases z)
theorem op2_pow : Op2 G (rI CPow fun i j => .int (i ^ j.toNat)) powD := Op2.sc (fun F B H x y d e p q Q c b hd he z k => by
  obtain ⟨i, j, rfl, rfl, z2⟩ := iOp_ok z
  unfold powI at z2
  split at z2
  · rename_i c0
    cases z2
    exact ⟨i, j, hd.toInt, he.toInt, ⟨c0.1, c0.2.1, c0.2.2⟩, k _ rfl⟩
  · cases z2) (iOp_ne fun _ _ _ _ z => by unfold powI at z; split at z <;> cases z)
theorem op2_lt : Op2 G (rI0 fun i j => .bl (decide (i < j))) ltD := Op2.sc (fun F B H x y d e p q Q c b hd he z k => by
  obtain ⟨i, j, rfl, rfl, z2⟩ := iOp_ok z
  cases z2
  exact ⟨i, j, hd.toInt, he.toInt, k _ rfl⟩) (iOp_ne fun _ _ _ _ z => nomatch z)
theorem op2_le : Op2 G (rI0 fun i j => .bl (decide (i ≤ j))) leD := Op2.sc (fun F B H x y d e p q Q c b hd he z k => by
  obtain ⟨i, j, rfl, rfl, z2⟩ := iOp_ok z
  cases z2
  exact ⟨i, j, hd.toInt, he.toInt, k _ rfl⟩) (iOp_ne fun _ _ _ _ z => nomatch z)
theorem op2_gt : Op2 G (rI0 fun i j => .bl (decide (j < i))) gtD := Op2.sc (fun F B H x y d e p q Q c b hd he z k => by
  obtain ⟨i, j, rfl, rfl, z2⟩ := iOp_ok z
  cases z2
  exact ⟨i, j, hd.toInt, he.toInt, k _ rfl⟩) (iOp_ne fun _ _ _ _ z => nomatch z)
theorem op2_ge : Op2 G (rI0 fun i j => .bl (decide (j ≤ i))) geD := Op2.sc (fun F B H x y d e p q Q c b hd he z k => by
  obtain ⟨i, j, rfl, rfl, z2⟩ := iOp_ok z
  cases z2
  exact ⟨i, j, hd.toInt, he.toInt, k _ rfl⟩) (iOp_ne fun _ _ _ _ z => nomatch z)
end
end DH
namespace DH
open PySem L2

/-! ### lists as data -/
/-- the items may be held by a new list that may be handed back -/
def elOk : LK → List D → Bool
  | .frz, _ => true
  | .own, xs => D.dupAll xs
  | .bor, xs => D.retAll xs
  | .tmp, xs => D.pureAll xs
section
variable {G : Gam} {W : WX} {X : Cx} {F B H F' B' H' : Hp} {σ : St} {x y : V} {k : LK} {ds es : List D} {p q : List Addr} {a : Addr} {vs : List V}
theorem Dat.lst (b : Base G F B H) (h : Dat G.T F B H x (.lst k ds) p) : ∃ a vs q, x = .ref a ∧ H a = some (.lst vs) ∧ Dats G.T F B H vs ds q ∧ (elOk k ds = true → q = [] ∧ D.pureAll ds = true) ∧ (D.dup (.lst k ds) = true → q = [] ∧ p = [] ∧ B a = some (.lst vs)) ∧ ∀ c ∈ q, c ∈ p := by
  cases h with
  | frz e h c => exact ⟨_, _, _, rfl, b.bh _ _ (b.fb _ _ e), h, fun _ => ⟨rfl, c⟩, fun _ => ⟨rfl, rfl, b.fb _ _ e⟩, fun _ z => nomatch z⟩
  | own e n h c => exact ⟨_, _, _, rfl, e, h, fun z => ⟨h.fp_dup z, Bool.and_eq_true_iff.mpr ⟨z, c⟩⟩, (fun z => nomatch z), fun c z => List.mem_cons_of_mem _ z⟩
  | tmp e n h => exact ⟨_, _, _, rfl, e, h, fun z => ⟨h.fp_dup (Bool.and_eq_true_iff.mp z).1, z⟩, (fun z => nomatch z), fun c z => List.mem_cons_of_mem _ z⟩
  | bor e h c => exact ⟨_, _, _, rfl, b.bh _ _ e, h, fun z => ⟨rfl, Bool.and_eq_true_iff.mpr ⟨c, z⟩⟩, fun _ => ⟨rfl, rfl, e⟩, fun _ z => nomatch z⟩
/-- a new own list -/
theorem new_own (b : Base G F B H) (n : H a = none) (h : Dats G.T F B H vs ds []) (c : D.retAll ds = true) : Ext F B H F B (upd H a (.lst vs)) ∧ Dat G.T F B (upd H a (.lst vs)) (.ref a) (.lst .own ds) [a] :=
  ⟨Ext.new b.fb b.bh n, .own upd_same (b.bh.free n) (h.ext (Ext.new b.fb b.bh n)) c⟩
theorem nd1 (a : Addr) : [a].Nodup := by simp
theorem new1 (n : H a = none) : ∀ c ∈ [a], H c = none := fun c z => by
  have e : c = a := by simpa using z
  rw [e]; exact n
/-- .. as an answer -/
theorem ans_own {Q : VK} (b : Base G F B H) (h : Dats G.T F B H vs ds []) (c : D.retAll ds = true) (k : ∀ F' B' H', Ext F B H F' B' H' → ∀ v p, Dat G.T F' B' H' v (.lst .own ds) p → p.Nodup → (∀ a ∈ p, H a = none) → Q v H') :
    ∀ a, H a = none → Q (.ref a) (upd H a (.lst vs)) := fun a n => by
  obtain ⟨x, d⟩ := new_own b n h c
  exact k _ _ _ x _ _ d (nd1 a) (new1 n)
theorem new_tup (b : Base G F B H) (n : H a = none) (h : Dats G.T F B H vs ds p) : Ext F B H (upd F a (.tup vs)) (upd B a (.tup vs)) (upd H a (.tup vs)) ∧ Dat G.T (upd F a (.tup vs)) (upd B a (.tup vs)) (upd H a (.tup vs)) (.ref a) (.tup ds) p :=
  ⟨Ext.imm b.fb b.bh n, .tup (.inl (.inl upd_same)) (h.ext (Ext.imm b.fb b.bh n))⟩
end

/-! ### + and * -/
def addD : D → D → Res D
  | .int i, .int j => .ok (.int (i + j))
  | .str x, .str y => if x.length + y.length ≤ LINE then .ok (.str (x ++ y)) else .stuck
  | .lst k xs, .lst l ys => if elOk k xs = true ∧ elOk l ys = true ∧ xs.length + ys.length ≤ LINE then .ok (.lst .own (xs ++ ys)) else .stuck
  | .tup xs, .tup ys => if xs ≠ [] ∧ ys ≠ [] ∧ D.dupAll xs = true ∧ D.dupAll ys = true ∧ xs.length + ys.length ≤ LINE then .ok (.tup (xs ++ ys)) else .stuck
  | _, _ => .stuck
def mulD : D → D → Res D
  | .int i, .int j => if mulOk i j = true then .ok (.int (i * j)) else .stuck
  | .lst k xs, .int j => if elOk k xs = true ∧ -9223372036854775808 ≤ j ∧ j < 9223372036854775808 ∧ xs.length * j.toNat ≤ LINE then .ok (.lst .own (List.replicate j.toNat xs).flatten) else .stuck
  | _, _ => .stuck
abbrev rAddAll (K : PySem.W.Frag) : R2 := fun x y H Q => rI0 (fun i j => .int (i + j)) x y H Q ∨ (∃ i j, x = .str i ∧ y = .str j ∧ i.length + j.length ≤ sizeLine ∧ Q (.str (i ++ j)) H) ∨ rCat x y H Q ∨ rCatT K x y H Q
theorem opr_add {X : Cx} : OpR X (binaryOp .Add) (rAddAll X.K) := op_add.or (op_add_str.or (op_cat.or op_catT))
theorem retAll_flat {xs : List D} (h : D.retAll xs = true) : ∀ k : Nat, D.retAll (List.replicate k xs).flatten = true
  | 0 => rfl
  | k + 1 => by rw [List.replicate_succ, List.flatten_cons, retAll_append, h, retAll_flat h k]; rfl
theorem kE.ite {α : Type} {G : Gam} {W : WX} {σ : St} {F B H : Hp} {c : Prop} [Decidable c] {r : Res α} {K : α → Hp → Hp → Hp → Prop} (h : kE G.T W σ F B H (if c then r else .stuck) K) : c ∧ kE G.T W σ F B H r K := by
  by_cases z : c
  · rw [if_pos z] at h; exact ⟨z, h⟩
  · rw [if_neg z] at h; exact h.elim
section
variable {G : Gam}
theorem op2_add : Op2 G (rAddAll G.K) addD := fun W σ F B H x y d e p q Q b hd he k => by
  cases d <;> cases e <;> first | exact k.elim | skip
  · cases hd; cases he
    exact .inl ⟨_, _, rfl, rfl, (kE.ok b.fb b.bh k) _ [] (.int _) List.nodup_nil fun _ z => nomatch z⟩
  · cases hd; cases he
    obtain ⟨c, k⟩ := kE.ite k
    rw [← line_eq] at c
    exact .inr (.inl ⟨_, _, rfl, rfl, c, (kE.ok b.fb b.bh k) _ [] (.str _) List.nodup_nil fun _ z => nomatch z⟩)
  · obtain ⟨c, k⟩ := kE.ite k
    obtain ⟨c1, c2, c3⟩ := c
    obtain ⟨a1, vs1, q1, rfl, h1, d1, g1, _⟩ := hd.lst b
    obtain ⟨a2, vs2, q2, rfl, h2, d2, g2, _⟩ := he.lst b
    obtain ⟨rfl, w1⟩ := g1 c1
    obtain ⟨rfl, w2⟩ := g2 c2
    refine .inr (.inr (.inl ⟨a1, a2, vs1, vs2, rfl, rfl, h1, h2, by rw [d1.length, d2.length, line_eq]; exact c3, ?_⟩))
    exact ans_own b (d1.app0 d2) (by rw [retAll_append, (Bool.and_eq_true_iff.mp w1).2, (Bool.and_eq_true_iff.mp w2).2]; rfl) k
  · obtain ⟨c, k⟩ := kE.ite k
    obtain ⟨c1, c2, c3, c4, c5⟩ := c
    cases hd with
    | tup t1 d1 =>
      cases he with
      | tup t2 d2 =>
        have e1 := d1.fp_dup c3
        have e2 := d2.fp_dup c4
        subst e1
        subst e2
        have n1 := d1.length
        have n2 := d2.length
        have hne : ∀ {vs : List V} {ds : List D}, vs.length = ds.length → ds ≠ [] → vs ≠ [] := fun e n z => by
          subst z
          exact n (List.length_eq_zero_iff.mp e.symm)
        refine .inr (.inr (.inr ⟨_, _, _, _, rfl, rfl, seqT_same (b.fb.trans b.bh) t1, seqT_same (b.fb.trans b.bh) t2, hne n1 c1, by rw [n1, n2, line_eq]; exact c5, fun z => absurd z (hne n2 c2), fun _ a na => ?_⟩))
        obtain ⟨x, d⟩ := new_tup b na (d1.app0 d2)
        exact k _ _ _ x _ _ d List.nodup_nil fun _ z => nomatch z
theorem mulOk_of {i j : Int} (h : mulOk i j = true) : CMul i j := by
  unfold mulOk at h
  simp only [Bool.or_eq_true, Bool.and_eq_true, decide_eq_true_eq] at h
  unfold bigI at h
  rcases h with ⟨h1, h2⟩ | ⟨h1, h2⟩
  · exact .inl ⟨by omega, by omega⟩
  · exact .inr ⟨by omega, by omega⟩
abbrev rMulAll : R2 := fun x y H Q => rI CMul (fun i j => .int (i * j)) x y H Q ∨ rRep x y H Q
theorem opr_mul {X : Cx} : OpR X (binaryOp .Mult) rMulAll := op_mul.or op_rep
theorem op2_mul : Op2 G rMulAll mulD := fun W σ F B H x y d e p q Q b hd he k => by
  cases d <;> cases e <;> first | exact k.elim | skip
  · cases hd; cases he
    obtain ⟨c, k⟩ := kE.ite k
    exact .inl ⟨_, _, rfl, rfl, mulOk_of c, (kE.ok b.fb b.bh k) _ [] (.int _) List.nodup_nil fun _ z => nomatch z⟩
  · cases he
    obtain ⟨c, k⟩ := kE.ite k
    obtain ⟨c1, c2, c3, c4⟩ := c
    obtain ⟨a1, vs1, q1, rfl, h1, d1, g1, _⟩ := hd.lst b
    obtain ⟨rfl, w1⟩ := g1 c1
    refine .inr ⟨a1, _, vs1, rfl, rfl, h1, by omega, by omega, by rw [d1.length, line_eq]; exact c4, ?_⟩
    exact ans_own b (d1.rep _) (retAll_flat (Bool.and_eq_true_iff.mp w1).2 _) k
theorem ev_add {W : WX} {X : Cx} {a b : Expr} {fa fb : Rho → Res D} {pos : Pos} (hK : X.K = G.K := by rfl) (ha : EB G X W a fa) (hb : EB G X W b fb) : EV G X W (.BinOp a .Add b pos) (eB2 addD fa fb) := by
  refine ev_op (r := rAddAll G.K) ?_ op2_add ha hb
  rw [← hK]
  exact opr_add
end
end DH
namespace DH
open PySem L2

/-! ### equality -/
mutual
def toPy : D → PyData
  | .non => .none
  | .bl b => .bool b
  | .int i => .int i
  | .str x => .str x
  | .lst _ xs => .list (toPyAll xs)
  | .tup xs => .tuple (toPyAll xs)
  | .scr ns => .list (ns.map PyData.int)
  | .ins _ _ => .dict []
  | .obj _ _ => .dict []
def toPyAll : List D → List PyData
  | [] => []
  | x :: xs => toPy x :: toPyAll xs
end
mutual
/-- data that == goes through: no objects, texts of signs, not too deep -/
def plain : Nat → D → Bool
  | _, .non => true
  | _, .bl _ => true
  | _, .int _ => true
  | _, .str x => PyData.strOk x
  | n + 1, .lst _ xs => plainAll n xs
  | n + 1, .tup xs => plainAll n xs
  | _, _ => false
def plainAll : Nat → List D → Bool
  | _, [] => true
  | n, x :: xs => plain n x && plainAll n xs
end
mutual
theorem plain_py : ∀ (n : Nat) (d : D), plain n d = true → (toPy d).canLay0 = true ∧ (toPy d).depth ≤ n
  | n, .non, _ => by cases n <;> exact ⟨rfl, Nat.zero_le _⟩
  | n, .bl _, _ => by cases n <;> exact ⟨rfl, Nat.zero_le _⟩
  | n, .int _, _ => by cases n <;> exact ⟨rfl, Nat.zero_le _⟩
  | n, .str x, h => by
    have h : PyData.strOk x = true := by cases n <;> exact h
    exact ⟨(by simp only [toPy, PyData.canLay0]; exact h), Nat.zero_le _⟩
  | 0, .lst _ _, h => nomatch h
  | 0, .tup _, h => nomatch h
  | n + 1, .lst _ xs, h => by
    obtain ⟨h1, h2⟩ := plainAll_py n xs h
    exact ⟨(by simp only [toPy, PyData.canLay0]; exact h1), (by simp only [toPy, PyData.depth]; omega)⟩
  | n + 1, .tup xs, h => by
    obtain ⟨h1, h2⟩ := plainAll_py n xs h
    exact ⟨(by simp only [toPy, PyData.canLay0]; exact h1), (by simp only [toPy, PyData.depth]; omega)⟩
  | 0, .ins _ _, h => nomatch h
  | 0, .obj _ _, h => nomatch h
  | 0, .scr _, h => nomatch h
  | n + 1, .ins _ _, h => nomatch h
  | n + 1, .obj _ _, h => nomatch h
  | n + 1, .scr _, h => nomatch h
theorem plainAll_py : ∀ (n : Nat) (xs : List D), plainAll n xs = true → PyData.canLayAll0 (toPyAll xs) = true ∧ PyData.depthAll (toPyAll xs) ≤ n
  | n, [], _ => ⟨rfl, Nat.zero_le _⟩
  | n, x :: xs, h => by
    have h : (plain n x && plainAll n xs) = true := by cases n <;> exact h
    obtain ⟨z1, z2⟩ := Bool.and_eq_true_iff.mp h
    obtain ⟨a1, a2⟩ := plain_py n x z1
    obtain ⟨b1, b2⟩ := plainAll_py n xs z2
    exact ⟨(by simp only [toPyAll, PyData.canLayAll0, a1, b1]; rfl), (by simp only [toPyAll, PyData.depthAll]; omega)⟩
end
theorem plain_shaped {d : D} (h : plain 12 d = true) : SeqAt.shaped (toPy d) = true := by
  obtain ⟨h1, h2⟩ := plain_py 12 d h
  exact Bool.and_eq_true_iff.mpr ⟨h1, decide_eq_true (by omega)⟩
section
variable {G : Gam} {F B H : Hp}
mutual
theorem Dat.dp (b : Base G F B H) : ∀ (n : Nat) {v : V} {d : D} {p : List Addr}, plain n d = true → Dat G.T F B H v d p → Dp G.K H v (toPy d)
  | _, _, _, _, _, .non => .non
  | _, _, _, _, _, .bl b => .bl b
  | _, _, _, _, _, .int i => .int i
  | _, _, _, _, _, .str x => .str x
  | 0, _, _, _, z, .frz _ _ _ => nomatch z
  | 0, _, _, _, z, .own _ _ _ _ => nomatch z
  | 0, _, _, _, z, .tmp _ _ _ => nomatch z
  | 0, _, _, _, z, .bor _ _ _ => nomatch z
  | 0, _, _, _, z, .tup _ _ => nomatch z
  | n + 1, _, _, _, z, .frz e h c => .lst (SqL.of (b.bh _ _ (b.fb _ _ e))) (Dats.dp b n z h)
  | n + 1, _, _, _, z, .own e _ h c => .lst (SqL.of e) (Dats.dp b n z h)
  | n + 1, _, _, _, z, .tmp e _ h => .lst (SqL.of e) (Dats.dp b n z h)
  | n + 1, _, _, _, z, .bor e h c => .lst (SqL.of (b.bh _ _ e)) (Dats.dp b n z h)
  | n + 1, _, _, _, z, .tup e h => .tup (seqT_same (b.fb.trans b.bh) e) (Dats.dp b n z h)
  | 0, _, _, _, z, .ins _ _ _ _ _ => nomatch z
  | n + 1, _, _, _, z, .ins _ _ _ _ _ => nomatch z
  | 0, _, _, _, z, .obj _ _ _ _ _ _ => nomatch z
  | n + 1, _, _, _, z, .obj _ _ _ _ _ _ => nomatch z
  | 0, _, _, _, z, .scr _ => nomatch z
  | n + 1, _, _, _, z, .scr _ => nomatch z
theorem Dats.dp (b : Base G F B H) : ∀ (n : Nat) {vs : List V} {ds : List D} {p : List Addr}, plainAll n ds = true → Dats G.T F B H vs ds p → DpAll G.K H vs (toPyAll ds)
  | _, _, _, _, _, .nil => .nil
  | n, _, d :: ds, _, z, .cons h t => by
    have z : (plain n d && plainAll n ds) = true := by cases n <;> exact z
    obtain ⟨z1, z2⟩ := Bool.and_eq_true_iff.mp z
    exact .cons (Dat.dp b n z1 h) (Dats.dp b n z2 t)
end
end
def eqb (d e : D) : Bool := PyData.eqv (toPy d) (toPy e)
def eqD (d e : D) : Res D := match sV d, sV e with
  | some x, some y => if scal x y = true then .ok (.bl (decide (x = y))) else if plain 12 d = true ∧ plain 12 e = true then .ok (.bl (eqb d e)) else .stuck
  | _, _ => if plain 12 d = true ∧ plain 12 e = true then .ok (.bl (eqb d e)) else .stuck
def notR : Res D → Res D
  | .ok (.bl b) => .ok (.bl (!b))
  | .err c fs => .err c fs
  | _ => .stuck
def neD (d e : D) : Res D := notR (eqD d e)
section
variable {G : Gam}
abbrev rEqAll (K : PySem.W.Frag) : R2 := fun x y H Q => rEq x y H Q ∨ rEqD K x y H Q
abbrev rNeAll (K : PySem.W.Frag) : R2 := fun x y H Q => rNe x y H Q ∨ rNeD K x y H Q
theorem opr_eq {X : Cx} (hu : X.A.units + 64 < cLine) : OpR X (compareOp .Eq) (rEqAll X.K) := op_eq.or (op_eqD hu)
theorem opr_ne {X : Cx} (hu : X.A.units + 64 < cLine) : OpR X (compareOp .NotEq) (rNeAll X.K) := op_ne.or (op_neD hu)
theorem eqD_cases {d e c : D} (h : eqD d e = .ok c) : (∃ x y, sV d = some x ∧ sV e = some y ∧ scal x y = true ∧ c = .bl (decide (x = y))) ∨ (plain 12 d = true ∧ plain 12 e = true ∧ c = .bl (eqb d e)) := by
  unfold eqD at h
  split at h
  · rename_i x y e1 e2
    split at h
    · rename_i s
      cases h
      exact .inl ⟨x, y, e1, e2, s, rfl⟩
    · split at h
      · rename_i c
        cases h
        exact .inr ⟨c.1, c.2, rfl⟩
      · cases h
  · split at h
    · rename_i c
      cases h
      exact .inr ⟨c.1, c.2, rfl⟩
    · cases h
theorem eqD_ne {d e : D} {c : Str} {fs : List (Str × V)} : eqD d e ≠ .err c fs := by
  unfold eqD
  split
  · split
    · exact fun z => nomatch z
    · split <;> exact fun z => nomatch z
  · split <;> exact fun z => nomatch z
theorem op2_eq : Op2 G (rEqAll G.K) eqD := Op2.sc (fun F B H x y d e p q Q c b hd he z k => by
  rcases eqD_cases z with ⟨v, w, h1, h2, s, rfl⟩ | ⟨h1, h2, rfl⟩
  · obtain rfl := hd.sV h1
    obtain rfl := he.sV h2
    exact .inl ⟨s, k _ rfl⟩
  · exact .inr ⟨_, _, hd.dp b 12 h1, he.dp b 12 h2, plain_shaped h1, plain_shaped h2, k _ rfl⟩) fun _ _ _ _ => eqD_ne
theorem op2_ne : Op2 G (rNeAll G.K) neD := Op2.sc (fun F B H x y d e p q Q c b hd he z k => by
  unfold neD at z
  cases z0 : eqD d e with
  | ok c0 =>
    rw [z0] at z
    rcases eqD_cases z0 with ⟨v, w, h1, h2, s, rfl⟩ | ⟨h1, h2, rfl⟩
    · obtain rfl := hd.sV h1
      obtain rfl := he.sV h2
      cases z
      exact .inl ⟨s, k _ rfl⟩
    · cases z
      exact .inr ⟨_, _, hd.dp b 12 h1, he.dp b 12 h2, plain_shaped h1, plain_shaped h2, k _ rfl⟩
  | err c fs => exact absurd z0 eqD_ne
  | stuck => rw [z0] at z; cases z) fun d e c fs z => by
    unfold neD at z
    cases z0 : eqD d e with
    | ok c0 => rw [z0] at z; cases c0 <;> cases z
    | err c fs => exact absurd z0 eqD_ne
    | stuck => rw [z0] at z; cases z
end

/-! ### is -/
def D.isNon : D → Bool
  | .non => true
  | _ => false
def isND (d e : D) : Res D := match e with
  | .non => .ok (.bl d.isNon)
  | .bl b => match d with | .bl c => .ok (.bl (decide (c = b))) | _ => .stuck
  | _ => .stuck
def notND (d e : D) : Res D := notR (isND d e)
abbrev rIsAll : R2 := fun x y H Q => (y = .non ∧ Q (.bl (decide (x = .non))) H) ∨ rIsB x y H Q
abbrev rIsNotAll : R2 := fun x y H Q => (y = .non ∧ Q (.bl (!decide (x = .non))) H) ∨ rNotB x y H Q
section
variable {G : Gam}
theorem opr_is {X : Cx} : OpR X (compareOp .Is) rIsAll := op_isN.or op_isBl
theorem opr_isNot {X : Cx} : OpR X (compareOp .IsNot) rIsNotAll := op_notN.or op_notBl
theorem Dat.isN {F B H : Hp} {x : V} {d : D} {p : List Addr} (h : Dat G.T F B H x d p) : decide (x = .non) = d.isNon := by
  cases h <;> rfl
theorem op2_is : Op2 G rIsAll isND := Op2.sc (fun F B H x y d e p q Q c b hd he z k => by
  cases e <;> first | cases z | skip
  · cases he
    exact .inl ⟨rfl, by rw [hd.isN]; exact k _ rfl⟩
  · cases he
    cases d <;> cases z
    cases hd
    exact .inr ⟨_, _, rfl, rfl, k _ rfl⟩) fun d e c fs z => by cases e <;> cases d <;> cases z
theorem op2_isNot : Op2 G rIsNotAll notND := Op2.sc (fun F B H x y d e p q Q c b hd he z k => by
  cases e <;> first | cases z | skip
  · cases he
    exact .inl ⟨rfl, by rw [hd.isN]; exact k _ rfl⟩
  · cases he
    cases d <;> cases z
    cases hd
    exact .inr ⟨_, _, rfl, rfl, k _ rfl⟩) fun d e c fs z => by cases e <;> cases d <;> cases z
end

/-! ### tests -/
def truthD : D → Res Bool
  | .non => .ok false
  | .bl b => .ok b
  | .int i => .ok (i != 0)
  | .str x => if x.length ≤ LINE then .ok ((x.length : Int) != 0) else .stuck
  | .lst _ xs => .ok (!xs.isEmpty)
  | .tup xs => .ok (!xs.isEmpty)
  | .scr ns => .ok (!ns.isEmpty)
  | _ => .stuck
def bT (f : Rho → Res D) : Rho → Res Bool := fun ρ => (f ρ).bind truthD
def bNot (f : Rho → Res Bool) : Rho → Res Bool := fun ρ => (f ρ).bind fun b => .ok (!b)
def bAnd (f g : Rho → Res Bool) : Rho → Res Bool := fun ρ => (f ρ).bind fun b => if b then g ρ else .ok false
def bOr (f g : Rho → Res Bool) : Rho → Res Bool := fun ρ => (f ρ).bind fun b => if b then .ok true else g ρ
section
variable {G : Gam} {W : WX} {X : Cx} {F B H : Hp} {σ : St} {a b : Expr} {fa fb : Rho → Res D} {pos : Pos}
theorem isEmpty_len {α β : Type} {xs : List α} {ys : List β} (h : xs.length = ys.length) : xs.isEmpty = ys.isEmpty := by
  cases xs <;> cases ys <;> first | rfl | simp at h
theorem Dat.tru {x : V} {d : D} {p : List Addr} {k : Bool} (bs : Base G F B H) (hd : Dat G.T F B H x d p) (h : truthD d = .ok k) : TruV G.K x H k := by
  cases d with
  | non => cases hd; cases h; rfl
  | bl b => cases hd; cases h; rfl
  | int i => cases hd; cases h; rfl
  | str x =>
    cases hd
    have h : (if x.length ≤ LINE then Res.ok ((x.length : Int) != 0) else .stuck) = .ok k := h
    by_cases c : x.length ≤ LINE
    · rw [if_pos c] at h
      cases h
      exact ⟨(by rw [line_eq]; exact c), rfl⟩
    · rw [if_neg c] at h
      cases h
  | lst k' xs =>
    cases h
    obtain ⟨a, vs, q, rfl, e, ds, _⟩ := hd.lst bs
    exact .inl ⟨vs, SqL.of e, by rw [isEmpty_len ds.length]⟩
  | tup xs =>
    cases h
    cases hd with
    | tup e ds => exact .inr (.inl ⟨_, seqT_same (bs.fb.trans bs.bh) e, by rw [isEmpty_len ds.length]⟩)
  | scr ns =>
    cases h
    cases hd with
    | scr e => exact .inl ⟨_, bs.bh.seq e, by rw [isEmpty_len (List.length_map ..)]⟩
  | ins _ _ => cases h
  | obj _ _ => cases h
theorem truthD_ne {d : D} {c : Str} {fs : List (Str × V)} : truthD d ≠ .err c fs := by
  intro z
  cases d with
  | str x =>
    have z : (if x.length ≤ LINE then Res.ok ((x.length : Int) != 0) else .stuck) = .err c fs := z
    by_cases c : x.length ≤ LINE
    · rw [if_pos c] at z; cases z
    · rw [if_neg c] at z; cases z
  | non => cases z
  | bl _ => cases z
  | int _ => cases z
  | lst _ _ => cases z
  | tup _ => cases z
  | ins _ _ => cases z
  | obj _ _ => cases z
  | scr _ => cases z
theorem et_val (hK : X.K = G.K) (ha : EB G X W a fa) (he : ∀ whole, isTrue a X.env whole = (do let v ← whole; standAt a.pos; holding [v] (truthy v)) := by intro _; rfl) : ET G X W a (bT fa) :=
  pt_pre (pt_truth ha he) fun σ H Q ⟨ρ, F, B, rel, k⟩ => ⟨ρ, F, B, rel, (kE.bind k).mono fun d F' B' H' x k' v p hd => by
    cases z : truthD d with
    | ok t =>
      rw [z] at k'
      exact ⟨t, by rw [hK]; exact hd.tru (rel.base.ext x) z, kE.ok x.fb x.bh k'⟩
    | err c fs => exact absurd z truthD_ne
    | stuck => rw [z] at k'; exact k'.elim⟩
def boolR : Res D → Res Bool
  | .ok (.bl b) => .ok b
  | .err c fs => .err c fs
  | _ => .stuck
/-- a comparison as a test -/
def bE (f : Rho → Res D) : Rho → Res Bool := fun ρ => (f ρ).bind fun d => match d with | .bl b => .ok b | _ => .stuck
theorem bE_run {t : TE} {f : Rho → Res D} (h : ∀ σ H Q, tV G W f σ H Q → t σ H Q) (σ : St) (H : Hp) (Q : Bool → Hp → Prop) (k : tT G W (bE f) σ H Q) : tTest t σ H Q := by
  obtain ⟨ρ, F, B, rel, k⟩ := k
  refine h σ H _ ⟨ρ, F, B, rel, (kE.bind k).mono fun d F' B' H' x k' v p hd _ _ => ?_⟩
  cases d <;> first | exact k'.elim | skip
  cases hd
  exact ⟨_, rfl, kE.ok x.fb x.bh k'⟩
theorem et_cmp {op : CmpOp} {r : R2} {g : D → D → Res D} (hr : OpR X (compareOp op) r) (ho : Op2 G r g) (ha : EB G X W a fa) (hb : EB G X W b fb) (hm : behindInMarks op b = false) : ET G X W (.Compare a [op] [b] pos) (bE (eB2 g fa fb)) :=
  pt_pre (pt_cmpR hr ha hb hm) (bE_run fun σ H Q ⟨ρ, F, B, rel, k⟩ => two_run ho rel k)
variable {ta tb : Rho → Res Bool} {rest : List Expr}
theorem et_not (ha : ET G X W a ta) : ET G X W (.UnaryOp .Not a pos) (bNot ta) :=
  pt_pre (pt_not ha) fun σ H Q ⟨ρ, F, B, rel, k⟩ => ⟨ρ, F, B, rel, (kE.bind k).mono fun b F' B' H' x k' => kE.ok x.fb x.bh k'⟩
abbrev EW (G : Gam) (X : Cx) (W : WX) (e : Expr) (f : Rho → Res Bool) : Prop := PW X e (tT G W f)
theorem ew_and1 (ha : ET G X W a ta) : EW G X W (.BoolOp .And [a] pos) ta := pw_and1 ha
theorem ew_or1 (ha : ET G X W a ta) : EW G X W (.BoolOp .Or [a] pos) ta := pw_or1 ha
theorem ew_and (ha : ET G X W a ta) (hb : EW G X W (.BoolOp .And (b :: rest) pos) tb) : EW G X W (.BoolOp .And (a :: b :: rest) pos) (bAnd ta tb) :=
  pw_pre (pw_and ha hb) fun σ H Q ⟨ρ, F, B, rel, k⟩ => ⟨ρ, F, B, rel, (kE.bind k).mono fun c F' B' H' x k' => by
    cases c with
    | true => exact ⟨ρ, F', B', rel.ext x, k'⟩
    | false => exact kE.ok (G := G) (W := W) (σ := σ) x.fb x.bh k'⟩
theorem ew_or (ha : ET G X W a ta) (hb : EW G X W (.BoolOp .Or (b :: rest) pos) tb) : EW G X W (.BoolOp .Or (a :: b :: rest) pos) (bOr ta tb) :=
  pw_pre (pw_or ha hb) fun σ H Q ⟨ρ, F, B, rel, k⟩ => ⟨ρ, F, B, rel, (kE.bind k).mono fun c F' B' H' x k' => by
    cases c with
    | true => exact kE.ok (G := G) (W := W) (σ := σ) x.fb x.bh k'
    | false => exact ⟨ρ, F', B', rel.ext x, k'⟩⟩
theorem et_w (h : EW G X W a ta) : ET G X W a ta := PW.pt h

/-- and, or, not as values -/
def eNot (f : Rho → Res D) : Rho → Res D := fun ρ => (f ρ).bind fun d => (truthD d).bind fun b => .ok (.bl (!b))
def eAnd (f g : Rho → Res D) : Rho → Res D := fun ρ => (f ρ).bind fun d => match d with | .bl b => (if b then g ρ else .ok (.bl false)) | _ => .stuck
def eOr (f g : Rho → Res D) : Rho → Res D := fun ρ => (f ρ).bind fun d => match d with | .bl b => (if b then .ok (.bl true) else g ρ) | _ => .stuck
theorem ev_one {op : BoolOp} {f : Rho → Res D} (h : EV G X W a f) : EV G X W (.BoolOp op [a] pos) f := pe_one h
theorem ev_and (ha : EV G X W a fa) (hb : EV G X W (.BoolOp .And (b :: rest) pos) fb) : EV G X W (.BoolOp .And (a :: b :: rest) pos) (eAnd fa fb) :=
  pe_pre (pe_and ha hb) fun σ H Q ⟨ρ, F, B, rel, k⟩ => ⟨ρ, F, B, rel, (kE.bind k).mono fun d F' B' H' x k' v p hd _ _ => by
    cases d <;> first | exact k'.elim | skip
    rename_i c
    cases hd
    refine ⟨c, rfl, ?_⟩
    cases c with
    | true => exact ⟨ρ, F', B', rel.ext x, kE.mono (r := fb ρ) k' fun e F2 B2 H2 y q v p he nd new => q v p he nd fun a m => x.h.free (new a m)⟩
    | false => exact kE.ok (G := G) (W := W) (σ := σ) x.fb x.bh k' _ [] (.bl _) List.nodup_nil fun _ z => nomatch z⟩
theorem ev_or (ha : EV G X W a fa) (hb : EV G X W (.BoolOp .Or (b :: rest) pos) fb) : EV G X W (.BoolOp .Or (a :: b :: rest) pos) (eOr fa fb) :=
  pe_pre (pe_or ha hb) fun σ H Q ⟨ρ, F, B, rel, k⟩ => ⟨ρ, F, B, rel, (kE.bind k).mono fun d F' B' H' x k' v p hd _ _ => by
    cases d <;> first | exact k'.elim | skip
    rename_i c
    cases hd
    refine ⟨c, rfl, ?_⟩
    cases c with
    | true => exact kE.ok (G := G) (W := W) (σ := σ) x.fb x.bh k' _ [] (.bl _) List.nodup_nil fun _ z => nomatch z
    | false => exact ⟨ρ, F', B', rel.ext x, kE.mono (r := fb ρ) k' fun e F2 B2 H2 y q v p he nd new => q v p he nd fun a m => x.h.free (new a m)⟩⟩
end
end DH
namespace DH
open PySem L2
open PyProof.Rows in
section
variable {X : L2.Cx} {a b c d : Expr} {ta tb tc td : TE} {pos : Pos}
/-- a op1 b op2 c op3 d -/
def tChain3 (r r' r2 : R2) (ta tb tc td : TE) : TE := fun σ H Q => ta σ H fun x H1 => tb σ H1 fun y H2 => r x y H2 fun z H3 => ∃ k, z = .bl k ∧
  (if k = true then tc σ H3 fun w H4 => r' y w H4 fun z' H5 => ∃ k', z' = .bl k' ∧ (if k' = true then td σ H5 fun u H6 => r2 w u H6 Q else Q (.bl false) H5) else Q (.bl false) H3)
theorem pe_chain3 {op op' op2 : CmpOp} {r r' r2 : R2} (ho : OpR X (compareOp op) r) (ho' : OpR X (compareOp op') r') (ho2 : OpR X (compareOp op2) r2) (ha : PE X a ta) (hb : PE X b tb) (hc : PE X c tc) (hd : PE X d td)
    (hm : lastMarks [op, op', op2] [b, c, d] = false := by with_unfolding_all rfl) : PE X (.Compare a [op, op', op2] [b, c, d] pos) (tChain3 r r' r2 ta tb tc td) := by
  refine ⟨fun pins s σ H Q I h => ?_⟩
  refine Compare_chain (thn (ha.run pins s σ H _ I h) fun v s1 ⟨x, H1, I1, r1, q1⟩ => chain_link (thn (hb.run pins s1 σ H1 _ I1 q1) fun u s2 ⟨y, H2, I2, r2, q2⟩ =>
    thn (ho pins s2 σ H2 x y v u _ I2 r1 r2 q2) fun d s3 ⟨z, H3, I3, r3, k, e, q3⟩ => ?_)) hm
  subst e
  cases r3
  refine wpAny_truthy_bool ?_
  cases k with
  | false => exact ite_ff ⟨.bl false, H3, I3, rfl, q3⟩
  | true =>
    refine ite_tt (chain_link (thn (hc.run pins s3 σ H3 _ I3 q3) fun w' s4 ⟨z', H4, I4, r4, q4⟩ => thn (ho' pins s4 σ H4 y z' u w' _ I4 r2 r4 q4) fun d' s5 ⟨z2, H5, I5, r5, k2, e2, q5⟩ => ?_))
    subst e2
    cases r5
    refine wpAny_truthy_bool ?_
    cases k2 with
    | false => exact ite_ff ⟨.bl false, H5, I5, rfl, q5⟩
    | true => exact ite_tt (chain_last (thn (hd.run pins s5 σ H5 _ I5 q5) fun w2 s6 ⟨z3, H6, I6, r6, q6⟩ => ho2 pins s6 σ H6 z' z3 w' w2 Q I6 r4 r6 q6))
theorem pt_chain3 {op op' op2 : CmpOp} {r r' r2 : R2} (ho : OpR X (compareOp op) r) (ho' : OpR X (compareOp op') r') (ho2 : OpR X (compareOp op2) r2) (ha : PE X a ta) (hb : PE X b tb) (hc : PE X c tc) (hd : PE X d td)
    (hm : lastMarks [op, op', op2] [b, c, d] = false := by with_unfolding_all rfl) : PT X (.Compare a [op, op', op2] [b, c, d] pos) (tTest (tChain3 r r' r2 ta tb tc td)) := by
  refine ⟨fun pins s σ H Q I h => ?_⟩
  refine isTrue_chain (thn (ha.run pins s σ H _ I h) fun v s1 ⟨x, H1, I1, r1, q1⟩ => test_link (thn (hb.run pins s1 σ H1 _ I1 q1) fun u s2 ⟨y, H2, I2, r2, q2⟩ =>
    thn (ho pins s2 σ H2 x y v u _ I2 r1 r2 q2) fun d s3 ⟨z, H3, I3, r3, k, e, q3⟩ => ?_)) hm
  subst e
  cases r3
  refine wpAny_truthy_bool ?_
  cases k with
  | false =>
    obtain ⟨k', e', q'⟩ := q3
    cases e'
    exact ite_ff ⟨H3, I3, q'⟩
  | true =>
    refine ite_tt (test_link (thn (hc.run pins s3 σ H3 _ I3 q3) fun w' s4 ⟨z', H4, I4, r4, q4⟩ => thn (ho' pins s4 σ H4 y z' u w' _ I4 r2 r4 q4) fun d' s5 ⟨z2, H5, I5, r5, k2, e2, q5⟩ => ?_))
    subst e2
    cases r5
    refine wpAny_truthy_bool ?_
    cases k2 with
    | false =>
      obtain ⟨k', e', q'⟩ := q5
      cases e'
      exact ite_ff ⟨H5, I5, q'⟩
    | true =>
      refine ite_tt (test_last (thn (hd.run pins s5 σ H5 _ I5 q5) fun w2 s6 ⟨z3, H6, I6, r6, q6⟩ => thn (ho2 pins s6 σ H6 z' z3 w' w2 _ I6 r4 r6 q6) fun d'' s7 ⟨z4, H7, I7, r7, k4, e4, q7⟩ => ?_))
      subst e4
      cases r7
      exact wpAny_truthy_bool ⟨H7, I7, q7⟩
end

section
variable {G : Gam} {W : WX} {X : L2.Cx} {F B H : Hp} {σ : L2.St} {a b c d : Expr} {fa fb fc fd : Rho → Res D} {pos : Pos} {ρ : Rho}
def thenD (x : Res D) (k : Res D) : Res D := x.bind fun d => match d with | .bl b => (if b then k else .ok (.bl false)) | _ => .stuck
def eCh2 (g g' : D → D → Res D) (a b c : Rho → Res D) : Rho → Res D := fun ρ => (a ρ).bind fun x => (b ρ).bind fun y => thenD (g x y) ((c ρ).bind fun z => g' y z)
def eCh3 (g g' g2 : D → D → Res D) (a b c d : Rho → Res D) : Rho → Res D := fun ρ => (a ρ).bind fun x => (b ρ).bind fun y => thenD (g x y) ((c ρ).bind fun z => thenD (g' y z) ((d ρ).bind fun u => g2 z u))
theorem thenD_run {r : R2} {g : D → D → Res D} {x y : V} {dx dy : D} {p q : List Addr} {k : Res D} {K : D → Hp → Hp → Hp → Prop} {Q : VK} (ho : Op2 G r g) (bs : Base G F B H) (hx : Dat G.T F B H x dx p) (hy : Dat G.T F B H y dy q)
    (h : kE G.T W σ F B H (thenD (g dx dy) k) K) (ht : ∀ F' B' H', Ext F B H F' B' H' → kE G.T W σ F' B' H' k K → Q (.bl true) H') (hf : ∀ F' B' H', Ext F B H F' B' H' → K (.bl false) F' B' H' → Q (.bl false) H') :
    r x y H Q := by
  refine ho W σ F B H x y dx dy p q Q bs hx hy ((kE.bind h).mono fun e F' B' H' ex k' v p he _ _ => ?_)
  cases e <;> first | exact k'.elim | skip
  rename_i t
  cases he
  cases t with
  | true => exact ht _ _ _ ex k'
  | false => exact hf _ _ _ ex (kE.ok ex.fb ex.bh k')
theorem ch2_run {r r' : R2} {g g' : D → D → Res D} {Q : VK} (ho : Op2 G r g) (ho' : Op2 G r' g') (rel : RelS G ρ F B σ H)
    (k : kE G.T W σ F B H (eCh2 g g' fa fb fc ρ) fun d F' B' H' => ∀ v p, Dat G.T F' B' H' v d p → p.Nodup → (∀ a ∈ p, H a = none) → Q v H') : tChain r r' (tB G W fa) (tB G W fb) (tB G W fc) σ H Q := by
  refine ⟨ρ, F, B, rel, (kE.bind k).mono fun dx F1 B1 H1 x1 k1 v p hx => ⟨ρ, F1, B1, rel.ext x1, (kE.bind k1).mono fun dy F2 B2 H2 x2 k2 w q hy => ?_⟩⟩
  refine thenD_run ho ((rel.ext x1).base.ext x2) (hx.ext x2) hy k2 (fun F3 B3 H3 x3 k3 => ⟨true, rfl, ?_⟩) fun F3 B3 H3 x3 k3 => ⟨false, rfl, ?_⟩
  · rw [if_pos rfl]
    refine ⟨ρ, F3, B3, ((rel.ext x1).ext x2).ext x3, (kE.bind k3).mono fun dz F4 B4 H4 x4 k4 u p2 hz => ?_⟩
    refine ho' W σ F4 B4 H4 w u dy dz q p2 Q ((((rel.ext x1).ext x2).ext x3).ext x4).base ((hy.ext x3).ext x4) hz (kE.mono k4 fun e F5 B5 H5 x5 k5 v' p' he nd new => k5 v' p' he nd fun a m => ?_)
    exact (((x1.trans x2).trans x3).trans x4).h.free (new a m)
  · rw [if_neg Bool.false_ne_true]
    exact k3 _ [] (.bl false) List.nodup_nil fun _ z => nomatch z
theorem ch3_run {r r' r2 : R2} {g g' g2 : D → D → Res D} {Q : VK} (ho : Op2 G r g) (ho' : Op2 G r' g') (ho2 : Op2 G r2 g2) (rel : RelS G ρ F B σ H)
    (k : kE G.T W σ F B H (eCh3 g g' g2 fa fb fc fd ρ) fun d F' B' H' => ∀ v p, Dat G.T F' B' H' v d p → p.Nodup → (∀ a ∈ p, H a = none) → Q v H') : tChain3 r r' r2 (tB G W fa) (tB G W fb) (tB G W fc) (tB G W fd) σ H Q := by
  refine ⟨ρ, F, B, rel, (kE.bind k).mono fun dx F1 B1 H1 x1 k1 v p hx => ⟨ρ, F1, B1, rel.ext x1, (kE.bind k1).mono fun dy F2 B2 H2 x2 k2 w q hy => ?_⟩⟩
  refine thenD_run ho ((rel.ext x1).base.ext x2) (hx.ext x2) hy k2 (fun F3 B3 H3 x3 k3 => ⟨true, rfl, ?_⟩) fun F3 B3 H3 x3 k3 => ⟨false, rfl, ?_⟩
  · rw [if_pos rfl]
    refine ⟨ρ, F3, B3, ((rel.ext x1).ext x2).ext x3, (kE.bind k3).mono fun dz F4 B4 H4 x4 k4 u p2 hz => ?_⟩
    refine thenD_run ho' ((((rel.ext x1).ext x2).ext x3).ext x4).base ((hy.ext x3).ext x4) hz k4 (fun F5 B5 H5 x5 k5 => ⟨true, rfl, ?_⟩) fun F5 B5 H5 x5 k5 => ⟨false, rfl, ?_⟩
    · rw [if_pos rfl]
      refine ⟨ρ, F5, B5, ((((rel.ext x1).ext x2).ext x3).ext x4).ext x5, (kE.bind k5).mono fun du F6 B6 H6 x6 k6 u2 p3 hu => ?_⟩
      refine ho2 W σ F6 B6 H6 u u2 dz du p2 p3 Q ((((((rel.ext x1).ext x2).ext x3).ext x4).ext x5).ext x6).base ((hz.ext x5).ext x6) hu (kE.mono k6 fun e F7 B7 H7 x7 k7 v' p' he nd new => k7 v' p' he nd fun a m => ?_)
      exact (((((x1.trans x2).trans x3).trans x4).trans x5).trans x6).h.free (new a m)
    · rw [if_neg Bool.false_ne_true]
      exact k5 _ [] (.bl false) List.nodup_nil fun _ z => nomatch z
  · rw [if_neg Bool.false_ne_true]
    exact k3 _ [] (.bl false) List.nodup_nil fun _ z => nomatch z
theorem ev_ch2 {op op' : CmpOp} {r r' : R2} {g g' : D → D → Res D} (hr : OpR X (compareOp op) r) (ho : Op2 G r g) (hr' : OpR X (compareOp op') r') (ho' : Op2 G r' g') (ha : EB G X W a fa) (hb : EB G X W b fb) (hc : EB G X W c fc)
    (hm : lastMarks [op, op'] [b, c] = false := by with_unfolding_all rfl) : EV G X W (.Compare a [op, op'] [b, c] pos) (eCh2 g g' fa fb fc) :=
  pe_pre (pe_chain hr hr' ha hb hc hm) fun σ H Q ⟨ρ, F, B, rel, k⟩ => ch2_run ho ho' rel k
theorem et_ch2 {op op' : CmpOp} {r r' : R2} {g g' : D → D → Res D} (hr : OpR X (compareOp op) r) (ho : Op2 G r g) (hr' : OpR X (compareOp op') r') (ho' : Op2 G r' g') (ha : EB G X W a fa) (hb : EB G X W b fb) (hc : EB G X W c fc)
    (hm : lastMarks [op, op'] [b, c] = false := by with_unfolding_all rfl) : ET G X W (.Compare a [op, op'] [b, c] pos) (bE (eCh2 g g' fa fb fc)) :=
  pt_pre (pt_chain hr hr' ha hb hc hm) (bE_run fun σ H Q ⟨ρ, F, B, rel, k⟩ => ch2_run ho ho' rel k)
theorem ev_ch3 {op op' op2 : CmpOp} {r r' r2 : R2} {g g' g2 : D → D → Res D} (hr : OpR X (compareOp op) r) (ho : Op2 G r g) (hr' : OpR X (compareOp op') r') (ho' : Op2 G r' g') (hr2 : OpR X (compareOp op2) r2) (ho2 : Op2 G r2 g2) (ha : EB G X W a fa) (hb : EB G X W b fb) (hc : EB G X W c fc) (hd : EB G X W d fd)
    (hm : lastMarks [op, op', op2] [b, c, d] = false := by with_unfolding_all rfl) : EV G X W (.Compare a [op, op', op2] [b, c, d] pos) (eCh3 g g' g2 fa fb fc fd) :=
  pe_pre (pe_chain3 hr hr' hr2 ha hb hc hd hm) fun σ H Q ⟨ρ, F, B, rel, k⟩ => ch3_run ho ho' ho2 rel k
theorem et_ch3 {op op' op2 : CmpOp} {r r' r2 : R2} {g g' g2 : D → D → Res D} (hr : OpR X (compareOp op) r) (ho : Op2 G r g) (hr' : OpR X (compareOp op') r') (ho' : Op2 G r' g') (hr2 : OpR X (compareOp op2) r2) (ho2 : Op2 G r2 g2) (ha : EB G X W a fa) (hb : EB G X W b fb) (hc : EB G X W c fc) (hd : EB G X W d fd)
    (hm : lastMarks [op, op', op2] [b, c, d] = false := by with_unfolding_all rfl) : ET G X W (.Compare a [op, op', op2] [b, c, d] pos) (bE (eCh3 g g' g2 fa fb fc fd)) :=
  pt_pre (pt_chain3 hr hr' hr2 ha hb hc hd hm) (bE_run fun σ H Q ⟨ρ, F, B, rel, k⟩ => ch3_run ho ho' ho2 rel k)

/-! ### arguments, displays -/
def aNil : Rho → Res (List D) := fun _ => .ok []
def aCons (f : Rho → Res D) (g : Rho → Res (List D)) : Rho → Res (List D) := fun ρ => (f ρ).bind fun d => (g ρ).bind fun ds => .ok (d :: ds)
variable {e : Expr} {es : List Expr} {fe : Rho → Res D} {fs : Rho → Res (List D)}
theorem ea_nil : EA G X W [] aNil := pa_pre pa_nil fun σ H Q ⟨ρ, F, B, rel, k⟩ => kE.ok rel.base.fb rel.base.bh k [] [] .nil
theorem eav_nil : EAV G X W [] aNil := pa_pre pa_nil fun σ H Q ⟨ρ, F, B, rel, k⟩ => kE.ok rel.base.fb rel.base.bh k [] [] .nil List.nodup_nil fun _ z => nomatch z
theorem ea_cons (h : EB G X W e fe) (t : EA G X W es fs) (hs : starEach (e :: es) X.env = (false, eval e X.env) :: starEach es X.env := by rfl) : EA G X W (e :: es) (aCons fe fs) :=
  pa_pre (pa_cons h t hs) fun σ H Q ⟨ρ, F, B, rel, k⟩ => ⟨ρ, F, B, rel, (kE.bind k).mono fun d F1 B1 H1 x1 k1 v p hd => ⟨ρ, F1, B1, rel.ext x1, (kE.bind k1).mono fun ds F2 B2 H2 x2 k2 vs q hs =>
    kE.ok x2.fb x2.bh k2 (v :: vs) (p ++ q) (.cons (hd.ext x2) hs)⟩⟩
theorem eav_cons (h : EV G X W e fe) (t : EAV G X W es fs) (hs : starEach (e :: es) X.env = (false, eval e X.env) :: starEach es X.env := by rfl) : EAV G X W (e :: es) (aCons fe fs) :=
  pa_pre (pa_cons h t hs) fun σ H Q ⟨ρ, F, B, rel, k⟩ => ⟨ρ, F, B, rel, (kE.bind k).mono fun d F1 B1 H1 x1 k1 v p hd nd new => ⟨ρ, F1, B1, rel.ext x1, (kE.bind k1).mono fun ds F2 B2 H2 x2 k2 vs q hs nds news =>
    kE.ok x2.fb x2.bh k2 (v :: vs) (p ++ q) (.cons (hd.ext x2) hs) (List.nodup_append.mpr ⟨nd, nds, fun a z b y e => (hd.foot a z).1 (e ▸ news b y)⟩) fun a z => by
      rcases List.mem_append.mp z with z | z
      · exact new a z
      · exact x1.h.free (news a z)⟩⟩
theorem EAV.toB (h : EAV G X W es fs) : EA G X W es fs := pa_pre h fun σ H Q ⟨ρ, F, B, rel, k⟩ => ⟨ρ, F, B, rel, k.mono fun ds F1 B1 H1 x1 k1 vs p h _ _ => k1 vs p h⟩
def eTup (f : Rho → Res (List D)) : Rho → Res D := fun ρ => (f ρ).bind fun ds => if ds.length ≤ LINE then .ok (.tup ds) else .stuck
def eLst (f : Rho → Res (List D)) : Rho → Res D := fun ρ => (f ρ).bind fun ds => if ds.length ≤ LINE ∧ D.retAll ds = true then .ok (.lst .own ds) else .stuck
def eTmp (f : Rho → Res (List D)) : Rho → Res D := fun ρ => (f ρ).bind fun ds => if ds.length ≤ LINE then .ok (.lst .tmp ds) else .stuck
theorem ev_tup {x1} (h : EAV G X W es fs) : EV G X W (.Tuple es x1 pos) (eTup fs) :=
  pe_pre (pe_tup h) fun σ H Q ⟨ρ, F, B, rel, k⟩ => ⟨ρ, F, B, rel, (kE.bind k).mono fun ds F1 B1 H1 x1 k1 vs p hs nd new => by
    obtain ⟨c, k1⟩ := kE.ite k1
    refine ⟨by rw [hs.length, line_eq]; exact c, fun a na => ?_⟩
    obtain ⟨x, d⟩ := new_tup (rel.base.ext x1) na hs
    exact k1 _ _ _ x _ _ d nd new⟩
theorem eb_tup {x1} (h : EA G X W es fs) : EB G X W (.Tuple es x1 pos) (eTup fs) :=
  pe_pre (pe_tup h) fun σ H Q ⟨ρ, F, B, rel, k⟩ => ⟨ρ, F, B, rel, (kE.bind k).mono fun ds F1 B1 H1 x1 k1 vs p hs => by
    obtain ⟨c, k1⟩ := kE.ite k1
    refine ⟨by rw [hs.length, line_eq]; exact c, fun a na => ?_⟩
    obtain ⟨x, d⟩ := new_tup (rel.base.ext x1) na hs
    exact k1 _ _ _ x _ _ d⟩
theorem ev_lst (h : EAV G X W es fs) : EV G X W (.List es pos) (eLst fs) :=
  pe_pre (pe_lst h) fun σ H Q ⟨ρ, F, B, rel, k⟩ => ⟨ρ, F, B, rel, (kE.bind k).mono fun ds F1 B1 H1 x1 k1 vs p hs nd new => by
    obtain ⟨c, k1⟩ := kE.ite k1
    refine ⟨by rw [hs.length, line_eq]; exact c.1, fun a na => ?_⟩
    have b1 := rel.base.ext x1
    have x := Ext.new (o := .lst vs) b1.fb b1.bh na
    exact k1 _ _ _ x _ _ (.own upd_same (b1.bh.free na) (hs.ext x) c.2) (List.nodup_cons.mpr ⟨fun z => (hs.foot a z).1 na, nd⟩) fun b z => by
      rcases List.mem_cons.mp z with rfl | z
      · exact x1.h.free na
      · exact new b z⟩
theorem eb_lst (h : EA G X W es fs) : EB G X W (.List es pos) (eTmp fs) :=
  pe_pre (pe_lst h) fun σ H Q ⟨ρ, F, B, rel, k⟩ => ⟨ρ, F, B, rel, (kE.bind k).mono fun ds F1 B1 H1 x1 k1 vs p hs => by
    obtain ⟨c, k1⟩ := kE.ite k1
    refine ⟨by rw [hs.length, line_eq]; exact c, fun a na => ?_⟩
    have b1 := rel.base.ext x1
    have x := Ext.new (o := .lst vs) b1.fb b1.bh na
    exact k1 _ _ _ x _ _ (.tmp upd_same (b1.bh.free na) (hs.ext x))⟩

/-! ### items, fields -/
def ixA {α : Type} (xs : List α) (i : Int) (k : α → Res D) : Res D := match atI xs i with
  | some d => k d
  | none => .stuck
def ixD : D → D → Res D
  | .lst _ xs, .int i => ixA xs i .ok
  | .tup xs, .int i => ixA xs i .ok
  | .scr ns, .int i => ixA ns i fun n => .ok (.int n)
  | .str x, .int i => if x.length ≤ LINE then ixA x.cps.toList i fun c => .ok (.str ⟨#[c]⟩) else .stuck
  | _, _ => .stuck
theorem atI_map {α β : Type} (f : α → β) (xs : List α) (i : Int) : atI (xs.map f) i = (atI xs i).map f := by
  unfold atI
  rw [List.length_map]
  cases w : ixN xs.length i with
  | none => rfl
  | some j => exact List.getElem?_map ..
theorem ixA_run {α : Type} {xs : List α} {i : Int} {k : α → Res D} {K : D → Hp → Hp → Hp → Prop} (h : kE G.T W σ F B H (ixA xs i k) K) : ∃ d, atI xs i = some d ∧ kE G.T W σ F B H (k d) K := by
  unfold ixA at h
  split at h
  · rename_i d e; exact ⟨d, e, h⟩
  · exact h.elim
theorem Dats.atI {vs : List V} {ds : List D} {p : List Addr} {i : Int} {d : D} (h : Dats G.T F B H vs ds p) (e : L2.atI ds i = some d) : ∃ v q, L2.atI vs i = some v ∧ Dat G.T F B H v d q := by
  unfold L2.atI at e ⊢
  rw [h.length]
  cases z : ixN ds.length i with
  | none => rw [z] at e; cases e
  | some j =>
    rw [z] at e
    obtain ⟨v, q, e1, h1, _⟩ := h.get (i := j) e
    exact ⟨v, q, e1, h1⟩
theorem op2_ix : Op2B G (rIx G.K) ixD := fun W σ F B H x y d e p q Q b hd he k => by
  cases e <;> first | (cases d <;> exact k.elim) | skip
  cases he
  cases d <;> first | exact k.elim | skip
  · cases hd
    obtain ⟨c, k⟩ := kE.ite k
    obtain ⟨z, e, k⟩ := ixA_run k
    exact .inr (.inr ⟨_, _, _, rfl, rfl, by rw [line_eq]; exact c, e, kE.ok b.fb b.bh k _ [] (.str _)⟩)
  · obtain ⟨z, e, k⟩ := ixA_run k
    obtain ⟨a, vs, q', rfl, ea, ds, _⟩ := hd.lst b
    obtain ⟨v, q2, e1, h1⟩ := ds.atI e
    exact .inl ⟨a, vs, _, v, rfl, rfl, SqL.of ea, e1, kE.ok b.fb b.bh k _ _ h1⟩
  · obtain ⟨z, e, k⟩ := ixA_run k
    cases hd with
    | tup ea ds =>
      obtain ⟨v, q2, e1, h1⟩ := ds.atI e
      exact .inr (.inl ⟨_, _, _, v, rfl, rfl, seqT_same (b.fb.trans b.bh) ea, e1, kE.ok b.fb b.bh k _ _ h1⟩)
  · obtain ⟨z, e, k⟩ := ixA_run k
    cases hd with
    | scr ea =>
      exact .inl ⟨_, _, _, .int z, rfl, rfl, b.bh.seq ea, (by rw [atI_map, e]; rfl), kE.ok b.fb b.bh k _ [] (.int _)⟩
theorem eb_ix (hK : X.K = G.K) (ha : EB G X W a fa) (hb : EB G X W b fb) (hs : PlainIx b := by exact fun _ _ => rfl) : EB G X W (.Subscript a b pos) (eB2 ixD fa fb) := by
  refine pe_pre (pe_ix (r := rIx G.K) ?_ ha hb hs) fun σ H Q ⟨ρ, F, B, rel, k⟩ => two_runB op2_ix rel k
  rw [← hK]
  exact ix_seq
theorem lookup_dats {f : Str} : ∀ {fvs : List (Str × V)} {fs : List (Str × D)} {d : D}, fvs.map (·.1) = fs.map (·.1) → Dats G.T F B H (fvs.map (·.2)) (fs.map (·.2)) [] → fs.lookup f = some d → ∃ v, fvs.lookup f = some v ∧ Dat G.T F B H v d [] ∧ f ∈ fs.map (·.1)
  | _, [], _, _, _, e => nomatch e
  | [], _ :: _, _, e, _, _ => nomatch e
  | (g, v) :: fvs, (g', d') :: fs, d, e, h, l => by
    obtain ⟨e1, e2⟩ := List.cons.inj e
    have e1 : g = g' := e1
    subst e1
    obtain ⟨v', ws, e3, h1, h2⟩ := Dats.uncons0 (ds := fs.map (·.2)) (d := d') h
    obtain ⟨rfl, rfl⟩ := List.cons.inj e3
    by_cases c : f = g
    · subst c
      simp only [List.lookup, beq_self_eq_true] at l ⊢
      cases l
      exact ⟨v, rfl, h1, List.mem_cons_self⟩
    · have c' : (f == g) = false := by simpa using c
      simp only [List.lookup, c'] at l ⊢
      obtain ⟨v2, z1, z2, z3⟩ := lookup_dats e2 h2 l
      exact ⟨v2, z1, z2, List.mem_cons_of_mem _ z3⟩
def fldF (f : Str) (fs : List (Str × D)) : Res D := match fs.lookup f with
  | some d => .ok d
  | none => .stuck
def fldD (f : Str) : D → Res D
  | .ins _ fs => fldF f fs
  | .obj _ fs => fldF f fs
  | _ => .stuck
theorem fldF_run {f : Str} {fs : List (Str × D)} {K : D → Hp → Hp → Hp → Prop} (h : kE G.T W σ F B H (fldF f fs) K) : ∃ d, fs.lookup f = some d ∧ kE G.T W σ F B H (.ok d) K := by
  unfold fldF at h
  split at h
  · rename_i d e; exact ⟨d, e, h⟩
  · exact h.elim
theorem eb_fld {f : Str} (hK : X.K = G.K) (ha : EB G X W a fa) (hb : attributeBase a f X.env (eval a X.env) = eval a X.env := by rfl) : EB G X W (.Attribute a f pos) (eU1 (fldD f) fa) :=
  pe_pre (pe_fld ha hb) fun σ H Q ⟨ρ, F, B, rel, k⟩ => ⟨ρ, F, B, rel, (kE.bind k).mono fun d F1 B1 H1 x1 k1 v p hd => by
    have b1 := rel.base.ext x1
    rw [hK]
    cases d <;> first | exact k1.elim | skip
    · obtain ⟨d', l, k2⟩ := fldF_run k1
      cases hd with
      | ins e m n h c =>
        obtain ⟨w, z1, z2, z3⟩ := lookup_dats n h l
        exact ⟨_, _, _, _, w, rfl, b1.bh _ _ (b1.fb _ _ e), m.cls, m.no f z3, z1, kE.ok b1.fb b1.bh k2 _ _ z2⟩
    · obtain ⟨d', l, k2⟩ := fldF_run k1
      cases hd with
      | obj e bn m n h c =>
        obtain ⟨w, z1, z2, z3⟩ := lookup_dats n h l
        exact ⟨_, _, _, _, w, rfl, e, m.cls, m.no f z3, z1, kE.ok b1.fb b1.bh k2 _ _ z2⟩⟩
end
end DH
namespace DH
open PySem L2

/-! ### built-in functions -/
def eN (g : List D → Res D) (f : Rho → Res (List D)) : Rho → Res D := fun ρ => (f ρ).bind g
def OpN (G : Gam) (r : List V → Hp → VK → Prop) (g : List D → Res D) : Prop := ∀ (W : WX) (σ : L2.St) (F B H : Hp) (vs : List V) (ds : List D) (p : List Addr) (Q : VK), Base G F B H → Dats G.T F B H vs ds p →
  kE G.T W σ F B H (g ds) (fun c F' B' H' => ∀ v p, Dat G.T F' B' H' v c p → p.Nodup → (∀ a ∈ p, H a = none) → Q v H') → r vs H Q
section
variable {G : Gam} {W : WX} {X : L2.Cx} {F B H : Hp} {σ : L2.St} {e : Expr} {es : List Expr} {fs : Rho → Res (List D)} {pos p : Pos} {ρ : Rho} {r : List V → Hp → VK → Prop} {g : List D → Res D} {x : Str} {id T : String}
theorem n_run {Q : VK} (ho : OpN G r g) (rel : RelS G ρ F B σ H) (k : kE G.T W σ F B H (eN g fs ρ) fun d F' B' H' => ∀ v p, Dat G.T F' B' H' v d p → p.Nodup → (∀ a ∈ p, H a = none) → Q v H') : tCB r (tA G W fs) σ H Q :=
  ⟨ρ, F, B, rel, (kE.bind k).mono fun ds F1 B1 H1 x1 k1 vs p hs => ho W σ F1 B1 H1 vs ds p Q (rel.base.ext x1) hs (kE.mono k1 fun c F2 B2 H2 x2 k2 v q hd nd new => k2 v q hd nd fun a m => x1.h.free (new a m))⟩
theorem ev_callB (hc : CallR X (.builtin id) r) (ho : OpN G r g) (hm : X.mg x = none) (hv : bootBuiltins x = some (.builtin id)) (ha : EA G X W (e :: es) fs) (hg : Gl X x := by rfl) (hn : x ≠ "__name__" := by decide) (hdb : (x == ("__debug__" : Str)) = false := by decide)
    (he : starEach (e :: es) X.env = (false, eval e X.env) :: starEach es X.env := by rfl) (hpl : (backTo pos (starEach es X.env)).any (·.1) = false := by rfl) : EV G X W (.Call (.Name x p) (e :: es) [] pos) (eN g fs) :=
  pe_pre (pe_callB hc hg hm hv ha hn hdb he hpl) fun σ H Q ⟨ρ, F, B, rel, k⟩ => n_run ho rel k
theorem ev_callTy (hc : CallR X (.type T) r) (ho : OpN G r g) (hm : X.mg x = none) (hv : bootBuiltins x = some (.type T)) (ha : EA G X W (e :: es) fs) (hg : Gl X x := by rfl) (hn : x ≠ "__name__" := by decide) (hdb : (x == ("__debug__" : Str)) = false := by decide)
    (he : starEach (e :: es) X.env = (false, eval e X.env) :: starEach es X.env := by rfl) (hpl : (backTo pos (starEach es X.env)).any (·.1) = false := by rfl) : EV G X W (.Call (.Name x p) (e :: es) [] pos) (eN g fs) :=
  pe_pre (pe_callTy hc hg hm hv ha hn hdb he hpl) fun σ H Q ⟨ρ, F, B, rel, k⟩ => n_run ho rel k
/-- where the answer is a scalar -/
theorem OpN.sc (h : ∀ (F B H : Hp) (vs : List V) (ds : List D) (p : List Addr) (Q : VK) (c : D), Base G F B H → Dats G.T F B H vs ds p → g ds = .ok c → (∀ v, sV c = some v → Q v H) → r vs H Q) (hn : ∀ ds c fs, g ds ≠ .err c fs) : OpN G r g :=
  fun W σ F B H vs ds p Q b hs k => by
    cases z : g ds with
    | ok c =>
      rw [z] at k
      exact h F B H vs ds p Q c b hs z fun v s => (kE.ok b.fb b.bh k) v [] (sV_dat s) List.nodup_nil fun _ z => nomatch z
    | err c fs => exact absurd z (hn ds c fs)
    | stuck => rw [z] at k; exact k.elim
theorem Dats.one {vs : List V} {d : D} {p : List Addr} (h : Dats G.T F B H vs [d] p) : ∃ v, vs = [v] ∧ Dat G.T F B H v d p := by
  obtain ⟨v, ws, q, r, rfl, e, h1, h2⟩ := h.uncons
  obtain ⟨rfl, rfl⟩ := h2.unnil
  rw [List.append_nil] at e
  rw [e]
  exact ⟨v, rfl, h1⟩
theorem Dats.two {vs : List V} {d d' : D} {p : List Addr} (h : Dats G.T F B H vs [d, d'] p) : ∃ v v' q q', vs = [v, v'] ∧ Dat G.T F B H v d q ∧ Dat G.T F B H v' d' q' := by
  obtain ⟨v, ws, q, r, rfl, e, h1, h2⟩ := h.uncons
  obtain ⟨v', rfl, h3⟩ := h2.one
  exact ⟨v, v', _, _, rfl, h1, h3⟩
end

def lenD : List D → Res D
  | [.lst _ xs] => .ok (.int xs.length)
  | [.tup xs] => .ok (.int xs.length)
  | [.scr ns] => .ok (.int ns.length)
  | [.str x] => if x.length ≤ LINE then .ok (.int x.length) else .stuck
  | _ => .stuck
def absD : List D → Res D
  | [.int i] => .ok (.int (if i < 0 then -i else i))
  | _ => .stuck
def max2D : List D → Res D
  | [.int i, .int j] => .ok (.int (if j > i then j else i))
  | _ => .stuck
def min2D : List D → Res D
  | [.int i, .int j] => .ok (.int (if j < i then j else i))
  | _ => .stuck
def intD : List D → Res D
  | [.int i] => .ok (.int i)
  | [.bl k] => .ok (.int (if k then 1 else 0))
  | _ => .stuck
def strD : List D → Res D
  | [.int i] => if i.natAbs.log2 < 1920 then .ok (.str (toString i)) else .stuck
  | _ => .stuck
/-- all are ints -/
def toInts : List D → Option (List Int)
  | [] => some []
  | .int i :: r => (toInts r).map (i :: ·)
  | _ :: _ => none
theorem toInts_of : ∀ {ds : List D} {ns : List Int}, toInts ds = some ns → ds = ns.map D.int
  | [], ns, h => by cases h; rfl
  | d :: ds, ns, h => by
    cases d <;> first | (cases h; done) | skip
    cases z : toInts ds with
    | none => simp [toInts, z] at h
    | some ms =>
      simp [toInts, z] at h
      subst h
      rw [toInts_of z]
      rfl
theorem toInts_map {α : Type} (f : α → Int) (xs : List α) : toInts (xs.map fun x => D.int (f x)) = some (xs.map f) := by
  induction xs with
  | nil => rfl
  | cons x xs ih => simp only [List.map_cons, toInts, ih, Option.map_some]
theorem toInts_int (ns : List Int) : toInts (ns.map D.int) = some ns := by
  have h := toInts_map id ns
  simpa using h
def sumR : Option (List Int) → Res D
  | some ns => .ok (.int ns.sum)
  | none => .stuck
def sumD : List D → Res D
  | [.lst _ xs] => sumR (toInts xs)
  | _ => .stuck
def maxL (n : Int) (ns : List Int) : Int := ns.foldl (fun a b => max a b) n
def minL (n : Int) (ns : List Int) : Int := ns.foldl (fun a b => min a b) n
def maxR : Option (List Int) → Res D
  | some (n :: ns) => .ok (.int (maxL n ns))
  | _ => .stuck
def minR : Option (List Int) → Res D
  | some (n :: ns) => .ok (.int (minL n ns))
  | _ => .stuck
def max1D : List D → Res D
  | [.lst _ xs] => maxR (toInts xs)
  | _ => .stuck
def min1D : List D → Res D
  | [.lst _ xs] => minR (toInts xs)
  | _ => .stuck
theorem maxL_spec : ∀ (n : Int) (ns : List Int), (maxL n ns ∈ n :: ns) ∧ ∀ y ∈ n :: ns, y ≤ maxL n ns
  | n, [] => ⟨List.mem_cons_self, fun y h => by simp at h; subst h; exact Int.le_refl _⟩
  | n, m :: ns => by
    obtain ⟨h1, h2⟩ := maxL_spec (max n m) ns
    have e : maxL n (m :: ns) = maxL (max n m) ns := rfl
    rw [e]
    refine ⟨?_, fun y h => ?_⟩
    · rcases List.mem_cons.mp h1 with h | h
      · rw [h]
        have : max n m = n ∨ max n m = m := by omega
        rcases this with q | q <;> rw [q] <;> simp
      · exact List.mem_cons_of_mem _ (List.mem_cons_of_mem _ h)
    · have hm := h2 (max n m) List.mem_cons_self
      rcases List.mem_cons.mp h with rfl | h
      · omega
      · rcases List.mem_cons.mp h with rfl | h
        · omega
        · exact h2 y (List.mem_cons_of_mem _ h)
theorem minL_spec : ∀ (n : Int) (ns : List Int), (minL n ns ∈ n :: ns) ∧ ∀ y ∈ n :: ns, minL n ns ≤ y
  | n, [] => ⟨List.mem_cons_self, fun y h => by simp at h; subst h; exact Int.le_refl _⟩
  | n, m :: ns => by
    obtain ⟨h1, h2⟩ := minL_spec (min n m) ns
    have e : minL n (m :: ns) = minL (min n m) ns := rfl
    rw [e]
    refine ⟨?_, fun y h => ?_⟩
    · rcases List.mem_cons.mp h1 with h | h
      · rw [h]
        have : min n m = n ∨ min n m = m := by omega
        rcases this with q | q <;> rw [q] <;> simp
      · exact List.mem_cons_of_mem _ (List.mem_cons_of_mem _ h)
    · have hm := h2 (min n m) List.mem_cons_self
      rcases List.mem_cons.mp h with rfl | h
      · omega
      · rcases List.mem_cons.mp h with rfl | h
        · omega
        · exact h2 y (List.mem_cons_of_mem _ h)
/-- ascending, by insertion -/
def insI (n : Int) : List Int → List Int
  | [] => [n]
  | m :: r => if n ≤ m then n :: m :: r else m :: insI n r
def sortI : List Int → List Int
  | [] => []
  | n :: r => insI n (sortI r)
theorem insI_perm (n : Int) : ∀ xs : List Int, (insI n xs).Perm (n :: xs)
  | [] => .refl _
  | m :: r => by
    unfold insI
    split
    · exact .refl _
    · exact ((insI_perm n r).cons m).trans (.swap n m r)
theorem sortI_perm : ∀ xs : List Int, (sortI xs).Perm xs
  | [] => .refl _
  | n :: r => (insI_perm n (sortI r)).trans ((sortI_perm r).cons n)
theorem insI_sorted (n : Int) : ∀ {xs : List Int}, xs.Pairwise (· ≤ ·) → (insI n xs).Pairwise (· ≤ ·)
  | [], _ => by simp [insI]
  | m :: r, h => by
    obtain ⟨h1, h2⟩ := List.pairwise_cons.mp h
    unfold insI
    split
    · rename_i c
      exact List.pairwise_cons.mpr ⟨fun y hy => (List.mem_cons.mp hy).elim (fun e => e ▸ c) fun hy => Int.le_trans c (h1 y hy), h⟩
    · rename_i c
      refine List.pairwise_cons.mpr ⟨fun y hy => ?_, insI_sorted n h2⟩
      rcases List.mem_cons.mp ((insI_perm n r).mem_iff.mp hy) with rfl | hy
      · omega
      · exact h1 y hy
theorem sortI_sorted : ∀ xs : List Int, (sortI xs).Pairwise (· ≤ ·)
  | [] => List.Pairwise.nil
  | n :: r => insI_sorted n (sortI_sorted r)
theorem sorted_uniq : ∀ {xs ys : List Int}, xs.Pairwise (· ≤ ·) → ys.Pairwise (· ≤ ·) → xs.Perm ys → xs = ys
  | [], ys, _, _, p => (List.nil_perm.mp p).symm
  | x :: xs, [], _, _, p => absurd p.length_eq (by simp)
  | x :: xs, y :: ys, hx, hy, p => by
    obtain ⟨x1, x2⟩ := List.pairwise_cons.mp hx
    obtain ⟨y1, y2⟩ := List.pairwise_cons.mp hy
    have e : x = y := by
      have a : x ∈ y :: ys := p.mem_iff.mp List.mem_cons_self
      have b : y ∈ x :: xs := p.mem_iff.mpr List.mem_cons_self
      rcases List.mem_cons.mp a with a | a
      · exact a
      · rcases List.mem_cons.mp b with b | b
        · exact b.symm
        · exact Int.le_antisymm (x1 y b) (y1 x a)
    subst e
    rw [sorted_uniq x2 y2 (List.Perm.cons_inv p)]
def sortR : Option (List Int) → Res D
  | some ns => .ok (.lst .own ((sortI ns).map D.int))
  | none => .stuck
def sortD : List D → Res D
  | [.lst _ xs] => sortR (toInts xs)
  | _ => .stuck
def revR : Option (List Int) → Res D
  | some ns => .ok (.lst .own ((sortI ns).reverse.map D.int))
  | none => .stuck
def sortRevD : List D → Res D
  | [.lst _ xs] => revR (toInts xs)
  | _ => .stuck
def listD : List D → Res D
  | [.lst k xs] => if elOk k xs = true then .ok (.lst .own xs) else .stuck
  | [.tup xs] => if D.pureAll xs = true then .ok (.lst .own xs) else .stuck
  | [.scr ns] => .ok (.lst .own (ns.map D.int))
  | _ => .stuck
def tupleD : List D → Res D
  | [.lst k xs] => if elOk k xs = true then .ok (.tup xs) else .stuck
  | [.tup xs] => if D.dupAll xs = true then .ok (.tup xs) else .stuck
  | _ => .stuck
theorem retAll_ints (ns : List Int) : D.retAll (ns.map D.int) = true := by
  induction ns with
  | nil => rfl
  | cons n ns ih => exact ih
theorem dupAll_ints (ns : List Int) : D.dupAll (ns.map D.int) = true := by
  induction ns with
  | nil => rfl
  | cons n ns ih => exact ih

section
variable {G : Gam} {F B H : Hp}
theorem Dats.lists {vs : List V} {k : LK} {xs : List D} {p : List Addr} {ns : List Int} (b : Base G F B H) (h : Dats G.T F B H vs [.lst k xs] p) (e : toInts xs = some ns) : ∃ a, vs = [.ref a] ∧ SqL G.K H a (ns.map V.int) := by
  obtain ⟨v, rfl, hd⟩ := h.one
  obtain ⟨a, ws, q, rfl, ea, ds, _⟩ := hd.lst b
  rw [toInts_of e] at ds
  rw [ds.to_ints] at ea
  exact ⟨a, rfl, SqL.of ea⟩
theorem kE_stuck {α : Type} {W : WX} {σ : L2.St} {K : α → Hp → Hp → Hp → Prop} {P : Prop} (h : kE G.T W σ F B H .stuck K) : P := h.elim
abbrev rLen (K : PySem.W.Frag) : List V → Hp → VK → Prop := fun xs H Q => ∃ x n, xs = [x] ∧ LenV K x H n ∧ Q (.int n) H
theorem opn_len : OpN G (rLen G.K) lenD := fun W σ F B H vs ds p Q b hs k => by
  match ds, k with
  | [.lst _ xs], k =>
    obtain ⟨v, rfl, hd⟩ := hs.one
    obtain ⟨a, ws, q, rfl, ea, ds, _⟩ := hd.lst b
    exact ⟨_, _, rfl, .inl ⟨ws, SqL.of ea, ds.length.symm⟩, kE.ok b.fb b.bh k _ [] (.int _) List.nodup_nil fun _ z => nomatch z⟩
  | [.tup xs], k =>
    obtain ⟨v, rfl, hd⟩ := hs.one
    cases hd with
    | tup e ds => exact ⟨_, _, rfl, .inr ⟨_, seqT_same (b.fb.trans b.bh) e, ds.length.symm⟩, kE.ok b.fb b.bh k _ [] (.int _) List.nodup_nil fun _ z => nomatch z⟩
  | [.scr ns], k =>
    obtain ⟨v, rfl, hd⟩ := hs.one
    cases hd with
    | scr e => exact ⟨_, _, rfl, .inl ⟨_, b.bh.seq e, (List.length_map ..).symm⟩, kE.ok b.fb b.bh k _ [] (.int _) List.nodup_nil fun _ z => nomatch z⟩
  | [.str x], k =>
    obtain ⟨v, rfl, hd⟩ := hs.one
    cases hd
    obtain ⟨c, k⟩ := kE.ite k
    exact ⟨_, _, rfl, ⟨(by rw [line_eq]; exact c), rfl⟩, kE.ok b.fb b.bh k _ [] (.int _) List.nodup_nil fun _ z => nomatch z⟩
theorem opn_abs : OpN G (fun xs H Q => ∃ i, xs = [.int i] ∧ Q (.int (if i < 0 then -i else i)) H) absD := fun W σ F B H vs ds p Q b hs k => by
  match ds, k with
  | [.int i], k =>
    obtain ⟨v, rfl, hd⟩ := hs.one
    cases hd
    exact ⟨_, rfl, kE.ok b.fb b.bh k _ [] (.int _) List.nodup_nil fun _ z => nomatch z⟩
theorem opn_max2 : OpN G (fun xs H Q => ∃ i j, xs = [.int i, .int j] ∧ Q (.int (if j > i then j else i)) H) max2D := fun W σ F B H vs ds p Q b hs k => by
  match ds, k with
  | [.int i, .int j], k =>
    obtain ⟨v, v', q, q', rfl, hd, hd'⟩ := hs.two
    cases hd; cases hd'
    exact ⟨_, _, rfl, kE.ok b.fb b.bh k _ [] (.int _) List.nodup_nil fun _ z => nomatch z⟩
theorem opn_min2 : OpN G (fun xs H Q => ∃ i j, xs = [.int i, .int j] ∧ Q (.int (if j < i then j else i)) H) min2D := fun W σ F B H vs ds p Q b hs k => by
  match ds, k with
  | [.int i, .int j], k =>
    obtain ⟨v, v', q, q', rfl, hd, hd'⟩ := hs.two
    cases hd; cases hd'
    exact ⟨_, _, rfl, kE.ok b.fb b.bh k _ [] (.int _) List.nodup_nil fun _ z => nomatch z⟩
theorem opn_int : OpN G (fun xs H Q => (∃ i, xs = [.int i] ∧ Q (.int i) H) ∨ ∃ k, xs = [.bl k] ∧ Q (.int (if k then 1 else 0)) H) intD := fun W σ F B H vs ds p Q b hs k => by
  match ds, k with
  | [.int i], k =>
    obtain ⟨v, rfl, hd⟩ := hs.one
    cases hd
    exact .inl ⟨_, rfl, kE.ok b.fb b.bh k _ [] (.int _) List.nodup_nil fun _ z => nomatch z⟩
  | [.bl i], k =>
    obtain ⟨v, rfl, hd⟩ := hs.one
    cases hd
    exact .inr ⟨_, rfl, kE.ok b.fb b.bh k _ [] (.int _) List.nodup_nil fun _ z => nomatch z⟩
theorem opn_str : OpN G (fun xs H Q => ∃ i, xs = [.int i] ∧ i.natAbs.log2 < 1920 ∧ Q (.str (toString i)) H) strD := fun W σ F B H vs ds p Q b hs k => by
  match ds, k with
  | [.int i], k =>
    obtain ⟨v, rfl, hd⟩ := hs.one
    cases hd
    obtain ⟨c, k⟩ := kE.ite k
    exact ⟨_, rfl, c, kE.ok b.fb b.bh k _ [] (.str _) List.nodup_nil fun _ z => nomatch z⟩
theorem opn_sum : OpN G (rSum G.K) sumD := fun W σ F B H vs ds p Q b hs k => by
  match ds, k with
  | [.lst _ xs], k =>
    have k : kE G.T W σ F B H (sumR (toInts xs)) _ := k
    cases e : toInts xs with
    | none => rw [e] at k; exact k.elim
    | some ns =>
      rw [e] at k
      obtain ⟨a, rfl, sq⟩ := hs.lists b e
      exact ⟨a, ns, rfl, sq, kE.ok b.fb b.bh k _ [] (.int _) List.nodup_nil fun _ z => nomatch z⟩
theorem opn_max1 : OpN G (rMax G.K) max1D := fun W σ F B H vs ds p Q b hs k => by
  match ds, k with
  | [.lst _ xs], k =>
    have k : kE G.T W σ F B H (maxR (toInts xs)) _ := k
    cases e : toInts xs with
    | none => rw [e] at k; exact k.elim
    | some ns =>
      rw [e] at k
      obtain ⟨a, rfl, sq⟩ := hs.lists b e
      cases ns with
      | nil => exact k.elim
      | cons n ns =>
        refine ⟨a, n :: ns, rfl, sq, Nat.succ_pos _, fun m h1 h2 => ?_⟩
        obtain ⟨s1, s2⟩ := maxL_spec n ns
        rw [Int.le_antisymm (s2 m h1) (h2 _ s1)]
        exact kE.ok b.fb b.bh k _ [] (.int _) List.nodup_nil fun _ z => nomatch z
theorem opn_min1 : OpN G (rMin G.K) min1D := fun W σ F B H vs ds p Q b hs k => by
  match ds, k with
  | [.lst _ xs], k =>
    have k : kE G.T W σ F B H (minR (toInts xs)) _ := k
    cases e : toInts xs with
    | none => rw [e] at k; exact k.elim
    | some ns =>
      rw [e] at k
      obtain ⟨a, rfl, sq⟩ := hs.lists b e
      cases ns with
      | nil => exact k.elim
      | cons n ns =>
        refine ⟨a, n :: ns, rfl, sq, Nat.succ_pos _, fun m h1 h2 => ?_⟩
        obtain ⟨s1, s2⟩ := minL_spec n ns
        rw [Int.le_antisymm (h2 _ s1) (s2 m h1)]
        exact kE.ok b.fb b.bh k _ [] (.int _) List.nodup_nil fun _ z => nomatch z
theorem opn_sorted : OpN G (rSortedI G.K) sortD := fun W σ F B H vs ds p Q b hs k => by
  match ds, k with
  | [.lst _ xs], k =>
    have k : kE G.T W σ F B H (sortR (toInts xs)) _ := k
    cases e : toInts xs with
    | none => rw [e] at k; exact k.elim
    | some ns =>
      rw [e] at k
      obtain ⟨a, rfl, sq⟩ := hs.lists b e
      refine ⟨a, ns, rfl, sq, fun ns' p pm so np => ?_⟩
      rw [sorted_uniq so (sortI_sorted ns) (pm.trans (sortI_perm ns).symm)]
      exact ans_own b (Dats.ints _) (retAll_ints _) k p np
theorem opn_list : OpN G (fun xs H Q => ∃ p ys, xs = [.ref p] ∧ (SqL G.K H p ys ∨ SqT G.K H p ys) ∧ ∀ l, H l = none → Q (.ref l) (upd H l (.lst ys))) listD := fun W σ F B H vs ds p Q b hs k => by
  match ds, k with
  | [.lst _ xs], k =>
    obtain ⟨v, rfl, hd⟩ := hs.one
    obtain ⟨c, k⟩ := kE.ite k
    obtain ⟨a, ws, q, rfl, ea, ds, g1, _⟩ := hd.lst b
    obtain ⟨rfl, w⟩ := g1 c
    exact ⟨a, ws, rfl, .inl (SqL.of ea), ans_own b ds (Bool.and_eq_true_iff.mp w).2 k⟩
  | [.tup xs], k =>
    obtain ⟨v, rfl, hd⟩ := hs.one
    obtain ⟨c, k⟩ := kE.ite k
    obtain ⟨c1, c2⟩ := Bool.and_eq_true_iff.mp c
    cases hd with
    | tup e ds =>
      obtain rfl := ds.fp_dup c1
      exact ⟨_, _, rfl, .inr (seqT_same (b.fb.trans b.bh) e), ans_own b ds c2 k⟩
  | [.scr ns], k =>
    obtain ⟨v, rfl, hd⟩ := hs.one
    cases hd with
    | scr e => exact ⟨_, _, rfl, .inl (b.bh.seq e), ans_own b (Dats.ints _) (retAll_ints _) k⟩
theorem opn_tuple : OpN G (fun xs H Q => ∃ p ys, xs = [.ref p] ∧ ((SqL G.K H p ys ∧ ∀ l, H l = none → Q (.ref l) (upd H l (.tup ys))) ∨ (SqT G.K H p ys ∧ Q (.ref p) H))) tupleD := fun W σ F B H vs ds p Q b hs k => by
  match ds, k with
  | [.lst _ xs], k =>
    obtain ⟨v, rfl, hd⟩ := hs.one
    obtain ⟨c, k⟩ := kE.ite k
    obtain ⟨a, ws, q, rfl, ea, ds, g1, _⟩ := hd.lst b
    obtain ⟨rfl, w⟩ := g1 c
    refine ⟨a, ws, rfl, .inl ⟨SqL.of ea, fun l nl => ?_⟩⟩
    obtain ⟨x, d⟩ := new_tup b nl ds
    exact k _ _ _ x _ _ d List.nodup_nil fun _ z => nomatch z
  | [.tup xs], k =>
    obtain ⟨v, rfl, hd⟩ := hs.one
    obtain ⟨c, k⟩ := kE.ite k
    cases hd with
    | tup e ds =>
      obtain rfl := ds.fp_dup c
      exact ⟨_, _, rfl, .inr ⟨seqT_same (b.fb.trans b.bh) e, kE.ok b.fb b.bh k _ [] (.tup e ds) List.nodup_nil fun _ z => nomatch z⟩⟩
end

/-! ### slices -/
def cutA {α : Type} (xs : List α) (lo hi : Option Int) : List α := (xs.drop (HT.sIx xs.length 0 lo)).take (HT.sIx xs.length xs.length hi - HT.sIx xs.length 0 lo)
def cutD (lo hi : Option Int) : D → Res D
  | .lst k xs => if elOk k xs = true then .ok (.lst .own (cutA xs lo hi)) else .stuck
  | .str x => if x.length ≤ LINE then .ok (.str (cutS x lo hi)) else .stuck
  | .tup xs => if D.dupAll (cutA xs lo hi) = true ∧ ¬ (HT.sIx xs.length 0 lo = 0 ∧ HT.sIx xs.length xs.length hi = xs.length) then .ok (.tup (cutA xs lo hi)) else .stuck
  | _ => .stuck
def oInt : D → Res (Option Int)
  | .int i => .ok (some i)
  | _ => .stuck
def oNone : Rho → Res (Option Int) := fun _ => .ok none
def oSome (f : Rho → Res D) : Rho → Res (Option Int) := fun ρ => (f ρ).bind oInt
def eCut (f : Rho → Res D) (lo hi : Rho → Res (Option Int)) : Rho → Res D := fun ρ => (f ρ).bind fun d => (lo ρ).bind fun l => (hi ρ).bind fun h => cutD l h d
def tO (G : Gam) (W : WX) (f : Rho → Res (Option Int)) : TO := fun σ H Q => ∃ ρ F B, RelS G ρ F B σ H ∧ kE G.T W σ F B H (f ρ) fun o F' B' H' => Q o H'
abbrev EO (G : Gam) (X : L2.Cx) (W : WX) (o : Option Expr) (f : Rho → Res (Option Int)) : Prop := PO X o (tO G W f)
section
variable {G : Gam} {W : WX} {X : L2.Cx} {F B H : Hp} {σ : L2.St} {e : Expr} {fe : Rho → Res D} {pos p2 : Pos} {ρ : Rho}
theorem po_pre {X : L2.Cx} {e : Option Expr} {t t' : TO} (h : PO X e t) (k : ∀ σ H Q, t' σ H Q → t σ H Q) : PO X e t' := ⟨fun pins s σ H Q I q => h.run pins s σ H Q I (k σ H Q q)⟩
theorem eo_none : EO G X W none oNone := po_pre po_none fun σ H Q ⟨ρ, F, B, rel, k⟩ => kE.ok rel.base.fb rel.base.bh k
theorem eo_some (h : EB G X W e fe) : EO G X W (some e) (oSome fe) := po_pre (po_some h) fun σ H Q ⟨ρ, F, B, rel, k⟩ => ⟨ρ, F, B, rel, (kE.bind k).mono fun d F' B' H' x k' v p hd => by
  cases d <;> first | exact k'.elim | skip
  cases hd
  exact ⟨_, rfl, kE.ok x.fb x.bh k'⟩⟩
abbrev rSlAll (K : PySem.W.Frag) : V → Option Int → Option Int → Hp → VK → Prop := fun x lo hi H Q => rSlL K x lo hi H Q ∨ rSlS x lo hi H Q ∨ rSlT K x lo hi H Q
theorem Dats.cut {vs : List V} {ds : List D} (lo hi : Option Int) (h : Dats G.T F B H vs ds []) : Dats G.T F B H (cutV vs lo hi) (cutA ds lo hi) [] := by
  unfold cutV cutA
  rw [h.length]
  exact (h.drop _).take _
theorem Dats.dropE : ∀ (n : Nat) {vs : List V} {ds : List D} {p : List Addr}, Dats G.T F B H vs ds p → ∃ q, Dats G.T F B H (vs.drop n) (ds.drop n) q
  | 0, _, _, p, h => ⟨p, h⟩
  | _ + 1, _, _, _, .nil => ⟨[], .nil⟩
  | n + 1, _, _, _, .cons _ t => t.dropE n
theorem Dats.takeE : ∀ (n : Nat) {vs : List V} {ds : List D} {p : List Addr}, Dats G.T F B H vs ds p → ∃ q, Dats G.T F B H (vs.take n) (ds.take n) q
  | 0, _, _, _, _ => ⟨[], .nil⟩
  | _ + 1, _, _, _, .nil => ⟨[], .nil⟩
  | n + 1, _, _, _, .cons h t => let ⟨q, z⟩ := t.takeE n; ⟨_, .cons h z⟩
theorem Dats.cutE {vs : List V} {ds : List D} {p : List Addr} (lo hi : Option Int) (h : Dats G.T F B H vs ds p) (c : D.dupAll (cutA ds lo hi) = true) : Dats G.T F B H (cutV vs lo hi) (cutA ds lo hi) [] := by
  unfold cutV
  rw [h.length]
  obtain ⟨q, h1⟩ := h.dropE (HT.sIx ds.length 0 lo)
  obtain ⟨q2, h2⟩ := h1.takeE (HT.sIx ds.length ds.length hi - HT.sIx ds.length 0 lo)
  obtain rfl := h2.fp_dup c
  exact h2
theorem mem_cutA {α : Type} {xs : List α} {lo hi : Option Int} {a : α} (h : a ∈ cutA xs lo hi) : a ∈ xs := List.mem_of_mem_drop (List.mem_of_mem_take h)
theorem retAll_cut {ds : List D} (lo hi : Option Int) (h : D.retAll ds = true) : D.retAll (cutA ds lo hi) = true := retAll_iff.mpr fun x m => retAll_iff.mp h x (mem_cutA m)
theorem dupAll_cut {ds : List D} (lo hi : Option Int) (h : D.dupAll ds = true) : D.dupAll (cutA ds lo hi) = true := dupAll_iff.mpr fun x m => dupAll_iff.mp h x (mem_cutA m)
theorem ev_cut {lo hi : Option Expr} {fl fh : Rho → Res (Option Int)} (hK : X.K = G.K) (he : EB G X W e fe) (hl : EO G X W lo fl) (hh : EO G X W hi fh) : EV G X W (.Subscript e (.Slice lo hi none p2) pos) (eCut fe fl fh) := by
  refine pe_pre (pe_slice (r := rSlAll G.K) (by rw [← hK]; exact sl_list.or (sl_str.or sl_tup)) he hl hh) fun σ H Q ⟨ρ, F, B, rel, k⟩ => ?_
  refine ⟨ρ, F, B, rel, (kE.bind k).mono fun d F1 B1 H1 x1 k1 v p hd => ⟨ρ, F1, B1, rel.ext x1, (kE.bind k1).mono fun l F2 B2 H2 x2 k2 => ⟨ρ, F2, B2, (rel.ext x1).ext x2, (kE.bind k2).mono fun h F3 B3 H3 x3 k3 => ?_⟩⟩⟩
  have b3 := (((rel.ext x1).ext x2).ext x3).base
  have hd3 := (hd.ext x2).ext x3
  have nw : ∀ {q : List Addr}, (∀ a ∈ q, H3 a = none) → ∀ a ∈ q, H a = none := fun n a m => ((x1.trans x2).trans x3).h.free (n a m)
  cases d <;> first | exact k3.elim | skip
  · cases hd3
    obtain ⟨c, k3⟩ := kE.ite k3
    exact .inr (.inl ⟨_, rfl, (by rw [line_eq]; exact c), kE.ok b3.fb b3.bh k3 _ [] (.str _) List.nodup_nil fun _ z => nomatch z⟩)
  · obtain ⟨c, k3⟩ := kE.ite k3
    obtain ⟨a, ws, q, rfl, ea, ds, g1, _⟩ := hd3.lst b3
    obtain ⟨rfl, w⟩ := g1 c
    exact .inl ⟨a, ws, rfl, SqL.of ea, ans_own b3 (ds.cut l h) (retAll_cut l h (Bool.and_eq_true_iff.mp w).2) fun F4 B4 H4 x4 v q hd nd new => k3 F4 B4 H4 x4 v q hd nd (nw new)⟩
  · obtain ⟨c, k3⟩ := kE.ite k3
    cases hd3 with
    | tup ea ds =>
      refine .inr (.inr ⟨_, _, rfl, seqT_same (b3.fb.trans b3.bh) ea, (by rw [ds.length]; exact c.2), fun a na => ?_⟩)
      obtain ⟨x, d⟩ := new_tup b3 na (ds.cutE l h c.1)
      exact k3 _ _ _ x _ _ d List.nodup_nil fun _ z => nomatch z
end
end DH
namespace DH
open PySem L2

/-! ### isinstance -/
def isiD (T : String) : D → Res D
  | .int _ => .ok (.bl (T == "int"))
  | .bl _ => .ok (.bl (T == "int" || T == "bool"))
  | .str _ => .ok (.bl (T == "str"))
  | .lst _ _ => .ok (.bl (T == "list"))
  | .tup _ => .ok (.bl (T == "tuple"))
  | .non => .ok (.bl false)
  | _ => .stuck
section
variable {G : Gam} {W : WX} {X : L2.Cx} {F B H : Hp} {σ : L2.St} {e : Expr} {fe : Rho → Res D} {pos p p2 : Pos} {ρ : Rho}
theorem seqT_tyx {K : PySem.W.Frag} {a : Addr} {vs : List V} (h : SqT K H a vs) : TyX K H (.ref a) (.type "tuple") := by
  rcases h with (h | ⟨o, h⟩) | ⟨o, its, n, h1, h2, _⟩
  · exact .base (.tup h)
  · exact .fTuple h
  · exact .kTuple h1 h2
theorem isi_run {T x : Str} {v : V} {d c : D} {p : List Addr} {K : PySem.W.Frag} {t : String} (hK : K = G.K) (b : Base G F B H) (hd : Dat G.T F B H v d p) (h : isiD t d = .ok c) (ht : t = "int" ∨ t = "bool" ∨ t = "str" ∨ t = "list" ∨ t = "tuple") :
    ∃ (u : Value) (r : Bool), TyX K H v u ∧ PySem.W.kitOne K u (.type t) = some r ∧ c = .bl r := by
  subst hK
  have kit : ∀ {a : String} {r : Bool}, kitB a t = some r → PySem.W.kitOne G.K (.type a) (.type t) = some r := fun h => kit_ty h
  cases d <;> first | (cases h; done) | skip
  · cases hd; cases h
    refine ⟨_, false, .base .non, kit ?_, rfl⟩
    rcases ht with rfl | rfl | rfl | rfl | rfl <;> decide +kernel
  · cases hd; cases h
    refine ⟨_, _, .base (.bl _), kit ?_, rfl⟩
    rcases ht with rfl | rfl | rfl | rfl | rfl <;> decide +kernel
  · cases hd; cases h
    refine ⟨_, _, .base (.int _), kit ?_, rfl⟩
    rcases ht with rfl | rfl | rfl | rfl | rfl <;> decide +kernel
  · cases hd; cases h
    refine ⟨_, _, .base (.str _), kit ?_, rfl⟩
    rcases ht with rfl | rfl | rfl | rfl | rfl <;> decide +kernel
  · cases h
    obtain ⟨a, ws, q, rfl, ea, ds, _⟩ := hd.lst b
    refine ⟨_, _, .base (.lst ea), kit ?_, rfl⟩
    rcases ht with rfl | rfl | rfl | rfl | rfl <;> decide +kernel
  · cases h
    cases hd with
    | tup e ds =>
      refine ⟨_, _, seqT_tyx (seqT_same (b.fb.trans b.bh) e), kit ?_, rfl⟩
      rcases ht with rfl | rfl | rfl | rfl | rfl <;> decide +kernel
theorem isiD_ne {t : String} {d : D} {c : Str} {fs : List (Str × V)} : isiD t d ≠ .err c fs := by
  intro z
  cases d <;> cases z
theorem ev_isi {T : Str} {t : String} (hK : X.K = G.K) (hm : X.mg "isinstance" = none) (hT : X.mg T = none) (hv : bootBuiltins T = some (.type t)) (he : EB G X W e fe) (ht : t = "int" ∨ t = "bool" ∨ t = "str" ∨ t = "list" ∨ t = "tuple")
    (hg : Gl X "isinstance" := by rfl) (hgT : Gl X T := by rfl) (hnT : T ≠ "__name__" := by decide) (hdT : (T == ("__debug__" : Str)) = false := by decide)
    (hs : starEach [e, .Name T p2] X.env = (false, eval e X.env) :: starEach [.Name T p2] X.env := by rfl) (hs2 : starEach [.Name T p2] X.env = (false, eval (.Name T p2) X.env) :: starEach [] X.env := by rfl)
    (hpl : (backTo pos (starEach [.Name T p2] X.env)).any (·.1) = false := by rfl) : EV G X W (.Call (.Name "isinstance" p) [e, .Name T p2] [] pos) (eU1 (isiD t) fe) :=
  pe_pre (pe_callB call_isi hg hm PyProof.Rows.boot_isinstance (pa_cons he (pa_cons (pe_bltn (v := .ty t) hgT hT hv rfl hnT hdT) pa_nil hs2) hs) (by decide) (by decide) hs hpl) fun σ H Q ⟨ρ, F, B, rel, k⟩ =>
    ⟨ρ, F, B, rel, (kE.bind k).mono fun d F1 B1 H1 x1 k1 v p hd => by
      cases z : isiD t d with
      | ok c =>
        rw [z] at k1
        obtain ⟨u, r, h1, h2, rfl⟩ := isi_run (T := T) (x := T) hK (rel.base.ext x1) hd z ht
        exact ⟨v, .ty t, u, .type t, r, rfl, .ty t, h1, h2, kE.ok x1.fb x1.bh k1 _ [] (.bl r) List.nodup_nil fun _ z => nomatch z⟩
      | err c fs => exact absurd z isiD_ne
      | stuck => rw [z] at k1; exact k1.elim⟩
end

/-! ### statements -/
inductive Out where
  | next (ρ : Rho)
  | ret (d : D)
  | brk (ρ : Rho)
  | cnt (ρ : Rho)
  | err (c : Str) (fs : List (Str × V)) (ρ : Rho)
  | stuck
def kS (G : Gam) (W : WX) (D' : Ends) : Out → Prop
  | .next ρ => ∀ σ F B H, RelS G ρ F B σ H → D'.nx σ H
  | .ret d => ∀ v F B H p, Base G F B H → Dat G.T F B H v d p → p.Nodup → D'.rt v H
  | .brk ρ => ∀ σ F B H, RelS G ρ F B σ H → D'.bk σ H
  | .cnt ρ => ∀ σ F B H, RelS G ρ F B σ H → D'.ct σ H
  | .err c fs ρ => ∀ cv x σ F B H, RelS G ρ F B σ H → ExcAt G.T c fs cv x H → W cv x σ H
  | .stuck => False
def tS (G : Gam) (W : WX) (f : Rho → Out) : TS := fun D' σ H => ∃ ρ F B, RelS G ρ F B σ H ∧ kS G W D' (f ρ)
abbrev SS (G : Gam) (X : L2.Cx) (W : WX) (st : Stmt) (f : Rho → Out) : Prop := PS X st (tS G W f)
abbrev SB (G : Gam) (X : L2.Cx) (W : WX) (st : List Stmt) (f : Rho → Out) : Prop := PSs X st (tS G W f)
/-- an expression's answer, then -/
def oBind {α : Type} (r : Res α) (ρ : Rho) (k : α → Out) : Out := match r with
  | .ok a => k a
  | .err c fs => .err c fs ρ
  | .stuck => .stuck
section
variable {G : Gam} {W : WX} {X : L2.Cx} {F B H : Hp} {σ : L2.St} {ρ : Rho} {D' : Ends} {st : Stmt} {rest : List Stmt} {f g : Rho → Out} {e a : Expr} {fe fa : Rho → Res D} {pos pos' : Pos} {α : Type}
theorem kS.bind {r : Res α} {k : α → Out} (rel : RelS G ρ F B σ H) (h : kS G W D' (oBind r ρ k)) : kE G.T W σ F B H r fun a _ _ _ => kS G W D' (k a) := by
  cases r with
  | ok a => exact fun _ _ _ _ => h
  | err c fs => exact fun cv x F' B' H' ex ea => h cv x σ F' B' H' (rel.ext ex) ea
  | stuck => exact h
theorem kS.mono {o : Out} {D2 : Ends} (h : kS G W D' o) (k1 : ∀ σ H, D'.nx σ H → D2.nx σ H) (k2 : ∀ v H, D'.rt v H → D2.rt v H) (k3 : ∀ σ H, D'.bk σ H → D2.bk σ H) (k4 : ∀ σ H, D'.ct σ H → D2.ct σ H) : kS G W D2 o := by
  cases o with
  | next ρ => exact fun σ F B H r => k1 _ _ (h σ F B H r)
  | ret d => exact fun v F B H p b hd n => k2 _ _ (h v F B H p b hd n)
  | brk ρ => exact fun σ F B H r => k3 _ _ (h σ F B H r)
  | cnt ρ => exact fun σ F B H r => k4 _ _ (h σ F B H r)
  | err c fs ρ => exact h
  | stuck => exact h
def sNil : Rho → Out := fun ρ => .next ρ
def sSeq (f g : Rho → Out) : Rho → Out := fun ρ => match f ρ with
  | .next ρ' => g ρ'
  | o => o
theorem sb_nil : SB G X W [] sNil := pss_pre pss_nil fun D' σ H ⟨ρ, F, B, rel, k⟩ => k σ F B H rel
theorem seq_run (k : kS G W D' (sSeq f g ρ)) : kS G W { D' with nx := tS G W g D' } (f ρ) := by
  unfold sSeq at k
  split at k
  · rename_i ρ' e
    rw [e]
    exact fun σ F B H rel => ⟨ρ', F, B, rel, k⟩
  · rename_i o hn
    cases z : f ρ with
    | next ρ' => exact absurd z (hn ρ')
    | ret d => rw [z] at k; exact k
    | brk ρ => rw [z] at k; exact k
    | cnt ρ => rw [z] at k; exact k
    | err c fs ρ => rw [z] at k; exact k
    | stuck => rw [z] at k; exact k
theorem sb_cons (h : SS G X W st f) (t : SB G X W rest g) : SB G X W (st :: rest) (sSeq f g) := pss_pre (pss_cons h t) fun D' σ H ⟨ρ, F, B, rel, k⟩ => ⟨ρ, F, B, rel, seq_run k⟩
theorem sb_one (h : SS G X W st f) : SB G X W [st] f := pss_one h
theorem ss_pass : SS G X W (.Pass pos) sNil := ps_pre ps_pass fun D' σ H ⟨ρ, F, B, rel, k⟩ => k σ F B H rel
def sBrk : Rho → Out := fun ρ => .brk ρ
def sCnt : Rho → Out := fun ρ => .cnt ρ
theorem ss_break : SS G X W (.Break pos) sBrk := ps_pre ps_break fun D' σ H ⟨ρ, F, B, rel, k⟩ => k σ F B H rel
theorem ss_continue : SS G X W (.Continue pos) sCnt := ps_pre ps_continue fun D' σ H ⟨ρ, F, B, rel, k⟩ => k σ F B H rel
def sDrop (f : Rho → Res D) : Rho → Out := fun ρ => oBind (f ρ) ρ fun _ => .next ρ
theorem ss_drop (h : EB G X W e fe) (hs : swapsWith e none pos.line X.env = pure false := by rfl) : SS G X W (.Expr e pos) (sDrop fe) :=
  ps_pre (ps_expr h hs) fun D' σ H ⟨ρ, F, B, rel, k⟩ => ⟨ρ, F, B, rel, (kS.bind rel k).mono fun d F1 B1 H1 x1 k1 v p _ => k1 σ F1 B1 H1 (rel.ext x1)⟩
def retK (d : D) : Out := if d.ret then .ret d else .stuck
def sRet (f : Rho → Res D) : Rho → Out := fun ρ => oBind (f ρ) ρ retK
theorem retK_run {d : D} (k : kS G W D' (retK d)) : d.ret = true ∧ kS G W D' (.ret d) := by
  unfold retK at k
  by_cases c : d.ret = true
  · rw [if_pos c] at k; exact ⟨c, k⟩
  · rw [if_neg c] at k; exact k.elim
theorem ss_ret (h : EV G X W e fe) : SS G X W (.Return (some e) pos) (sRet fe) :=
  ps_pre (ps_ret h) fun D' σ H ⟨ρ, F, B, rel, k⟩ => ⟨ρ, F, B, rel, (kS.bind rel k).mono fun d F1 B1 H1 x1 k1 v p hd nd _ => (retK_run k1).2 v F1 B1 H1 p (rel.base.ext x1) hd nd⟩
/-- return of a name: what it holds goes -/
def sRetV (i : Nat) : Rho → Out := fun ρ => match ρ[i]? with
  | some (some d) => retK d
  | _ => .stuck
theorem ss_retV (i : Nat) {x : Str} {p : Pos} (hN : X.N[i]? = some x := by rfl) (hv : Vis X.env.scope x := by first | exact Or.inl rfl | exact Or.inr (Or.inl rfl) | exact Or.inr (Or.inr rfl)) (hd : (x == ("__debug__" : Str)) = false := by decide)
    (hcd : (x == ("__classdict__" : Str)) = false := by decide) : SS G X W (.Return (some (.Name x p)) pos) (sRetV i) :=
  ps_pre (ps_ret (pe_var hN hv hd hcd)) fun D' σ H ⟨ρ, F, B, rel, k⟩ => by
    unfold sRetV at k
    split at k
    · rename_i d e
      obtain ⟨fp, s, n⟩ := rel.slots
      obtain ⟨v, q, e1, h, _, nq⟩ := s.get e
      exact ⟨v, e1, (retK_run k).2 v F B H q rel.base h (nq n)⟩
    · exact k.elim
def sRetN : Rho → Out := fun _ => .ret .non
theorem ss_retN : SS G X W (.Return none pos) sRetN := ps_pre ps_retN fun D' σ H ⟨ρ, F, B, rel, k⟩ => k .non F B H [] rel.base .non List.nodup_nil
theorem Slots.set' {v : V} {d : D} {r : List Addr} (h : Dat G.T F B H v d r) {σ : L2.St} {ρ : Rho} {p : List Addr} (i : Nat) (s : Slots G.T F B H σ ρ p) (np : p.Nodup) (nr : r.Nodup) (k : ∀ a ∈ r, a ∉ p) :
    ∃ q, Slots G.T F B H (σ.set i (some v)) (ρ.set i (some d)) q ∧ q.Nodup := by
  by_cases hi : i < ρ.length
  · obtain ⟨q, s', n, _⟩ := s.set h hi np nr k
    exact ⟨q, s', n⟩
  · refine ⟨p, ?_, np⟩
    rw [List.set_eq_of_length_le (by rw [s.length]; omega), List.set_eq_of_length_le (by omega)]
    exact s
theorem Slots.set_dup {v : V} {d : D} (h : Dat G.T F B H v d []) {σ : L2.St} {ρ : Rho} {p : List Addr} (i : Nat) (s : Slots G.T F B H σ ρ p) (np : p.Nodup) : ∃ q, Slots G.T F B H (σ.set i (some v)) (ρ.set i (some d)) q ∧ q.Nodup :=
  Slots.set' h i s np List.nodup_nil fun _ z => nomatch z
theorem RelS.set {v : V} {d : D} {r : List Addr} {F' B' H' : Hp} (rel : RelS G ρ F B σ H) (x : Ext F B H F' B' H') (i : Nat) (hp : PinOk G i) (h : Dat G.T F' B' H' v d r) (nr : r.Nodup) (new : ∀ a ∈ r, H a = none) : RelS G (ρ.set i (some d)) F' B' (σ.set i (some v)) H' := by
  obtain ⟨fp, s, n⟩ := rel.slots
  exact ⟨rel.base.ext x, Slots.set' h i (s.ext x) n nr fun a z y => (s.foot a y).1 (new a z), rel.pin.set hp⟩
def sSet (i : Nat) (f : Rho → Res D) : Rho → Out := fun ρ => oBind (f ρ) ρ fun d => .next (ρ.set i (some d))
theorem ss_set (i : Nat) {x : Str} (hp : PinOk G i) (hN : X.N.Nodup) (he : EV G X W e fe) (hi : X.N[i]? = some x := by rfl) (hx : Loc X.env.scope x := by first | exact Or.inl rfl | exact Or.inr rfl) (hs : swapsWith e (some (.Name x pos')) pos.line X.env = pure false := by rfl)
    (hf : X.fn x = true ∨ X.env.scope.names.lookup x = some .local := by first | exact .inl rfl | exact .inr rfl) : SS G X W (.Assign [.Name x pos'] e pos) (sSet i fe) :=
  ps_pre (ps_set hN hi hx he hs hf) fun D' σ H ⟨ρ, F, B, rel, k⟩ => ⟨ρ, F, B, rel, (kS.bind rel k).mono fun d F1 B1 H1 x1 k1 v p hd nd new => k1 _ F1 B1 H1 (rel.set x1 i hp hd nd new)⟩

/-! ### targets -/
abbrev GG := D → Rho → Option Rho
/-- but for the places vs the slots are the same -/
structure Agree (vs : List Nat) (σ σ' : L2.St) : Prop where
  len : σ'.length = σ.length
  at_ : ∀ j, j ∉ vs → σ'[j]? = σ[j]?
def tG (G : Gam) (vs : List Nat) (g : GG) : TG := fun v σ H Q => ∃ ρ F B d ρ', RelS G ρ F B σ H ∧ Dat G.T F B H v d [] ∧ g d ρ = some ρ' ∧ ∀ σ', RelS G ρ' F B σ' H → Agree vs σ σ' → Q σ' H
abbrev GGs := List D → Rho → Option Rho
def tGs (G : Gam) (ws : List Nat) (g : GGs) : TGs := fun vs σ H Q => ∃ ρ F B ds ρ', RelS G ρ F B σ H ∧ Dats G.T F B H vs ds [] ∧ g ds ρ = some ρ' ∧ ∀ σ', RelS G ρ' F B σ' H → Agree ws σ σ' → Q σ' H
abbrev GT (G : Gam) (X : L2.Cx) (vs : List Nat) (tg : Expr) (g : GG) : Prop := PG X tg (tG G vs g)
abbrev GTs (G : Gam) (X : L2.Cx) (vs : List Nat) (tgs : List Expr) (g : GGs) : Prop := PGs X tgs (tGs G vs g)
theorem pg_pre {e : Expr} {t t' : TG} (h : PG X e t) (k : ∀ v σ H Q, t' v σ H Q → t v σ H Q) : PG X e t' := ⟨fun pins s σ H v u Q I r q => h.run pins s σ H v u Q I r (k v σ H Q q)⟩
theorem pgs_pre {e : List Expr} {t t' : TGs} (h : PGs X e t) (k : ∀ v σ H Q, t' v σ H Q → t v σ H Q) : PGs X e t' := ⟨fun pins s σ H v u Q I r q => h.run pins s σ H v u Q I r (k v σ H Q q)⟩
def gN (i : Nat) : GG := fun d ρ => some (ρ.set i (some d))
theorem gt_name (i : Nat) {x : Str} (hp : PinOk G i) (hN : X.N.Nodup) (hi : X.N[i]? = some x := by rfl) (hx : Loc X.env.scope x := by first | exact Or.inl rfl | exact Or.inr rfl) (hf : X.fn x = true ∨ X.env.scope.names.lookup x = some .local := by first | exact .inl rfl | exact .inr rfl) :
    GT G X [i] (.Name x pos) (gN i) := pg_pre (pg_name hN hi hx hf) fun v σ H Q ⟨ρ, F, B, d, ρ', rel, hd, e, k⟩ => by
  cases e
  refine k _ (rel.set (.refl rel.base.fb rel.base.bh) i hp hd List.nodup_nil fun _ z => nomatch z) ⟨List.length_set .., fun j hj => ?_⟩
  exact List.getElem?_set_ne fun e => hj (by simp [e])
def gNl : GGs := fun ds ρ => match ds with | [] => some ρ | _ => none
def gCn (t : GG) (u : GGs) : GGs := fun ds ρ => match ds with
  | d :: r => (t d ρ).bind fun ρ' => u r ρ'
  | [] => none
def gTp (u : GGs) : GG := fun d ρ => match d with
  | .tup ds => u ds ρ
  | _ => none
theorem gts_nil : GTs G X [] [] gNl := pgs_pre pgs_nil fun vs σ H Q ⟨ρ, F, B, ds, ρ', rel, hd, e, k⟩ => by
  cases ds with
  | nil =>
    obtain ⟨rfl, _⟩ := hd.unnil
    cases e
    exact ⟨rfl, k σ rel ⟨rfl, fun _ _ => rfl⟩⟩
  | cons _ _ => cases e
theorem Agree.trans {v1 v2 : List Nat} {σ σ1 σ2 : L2.St} (a : Agree v1 σ σ1) (b : Agree v2 σ1 σ2) : Agree (v1 ++ v2) σ σ2 :=
  ⟨b.len.trans a.len, fun j hj => (b.at_ j fun z => hj (List.mem_append_right _ z)).trans (a.at_ j fun z => hj (List.mem_append_left _ z))⟩
theorem gts_cons {es : List Expr} {t : GG} {u : GGs} {v1 v2 : List Nat} (h : GT G X v1 e t) (r : GTs G X v2 es u) (hs : (assignEach (e :: es) X.env).map (·.2) = assign e X.env :: (assignEach es X.env).map (·.2) := by rfl) : GTs G X (v1 ++ v2) (e :: es) (gCn t u) :=
  pgs_pre (pgs_cons h r hs) fun vs σ H Q ⟨ρ, F, B, ds, ρ', rel, hd, e, k⟩ => by
    cases ds with
    | nil => cases e
    | cons d ds =>
      obtain ⟨v, ws, rfl, h1, h2⟩ := hd.uncons0
      have e : (t d ρ).bind (fun ρ' => u ds ρ') = some ρ' := e
      cases z : t d ρ with
      | none => rw [z] at e; cases e
      | some ρ1 =>
        rw [z] at e
        exact ⟨v, ws, rfl, ρ, F, B, d, ρ1, rel, h1, z, fun σ1 rel1 a1 => ⟨ρ1, F, B, ds, ρ', rel1, h2, e, fun σ2 rel2 a2 => k σ2 rel2 (a1.trans a2)⟩⟩
/-- how many items a list of targets takes -/
def GLen (u : GGs) (n : Nat) : Prop := ∀ ds ρ ρ', u ds ρ = some ρ' → ds.length = n
theorem gl0 : GLen gNl 0 := fun ds ρ ρ' h => by
  cases ds with
  | nil => rfl
  | cons _ _ => cases h
theorem gl1 {t : GG} {u : GGs} {n : Nat} (h : GLen u n) : GLen (gCn t u) (n + 1) := fun ds ρ ρ' e => by
  cases ds with
  | nil => cases e
  | cons d ds =>
    have e : (t d ρ).bind (fun ρ' => u ds ρ') = some ρ' := e
    cases z : t d ρ with
    | none => rw [z] at e; cases e
    | some ρ1 =>
      rw [z] at e
      exact congrArg (· + 1) (h ds ρ1 ρ' e)
theorem gt_tup {es : List Expr} {k : Nat} {u : GGs} {n : Nat} {vs : List Nat} (hl : GLen u n) (hK : X.K = G.K) (hc : X.calm = true) (h : GTs G X vs es u) (hn : (assignEach es X.env).length = n := by rfl) (hst : (assignEach es X.env).findIdx? (·.1) = none := by rfl) : GT G X vs (.Tuple es k pos) (gTp u) :=
  pg_pre (pg_tup hc h hn hst) fun v σ H Q ⟨ρ, F, B, d, ρ', rel, hd, e, k⟩ => by
    cases d <;> first | (cases e; done) | skip
    cases hd with
    | tup ea ds =>
      exact ⟨_, _, rfl, (by rw [hK]; exact seqT_same (rel.base.fb.trans rel.base.bh) ea), (by rw [ds.length]; exact hl _ _ _ e), ρ, F, B, _, ρ', rel, ds, e, k⟩
end
end DH
namespace DH
open PySem L2

section
variable {G : Gam} {W : WX} {X : L2.Cx} {F B H : Hp} {σ : L2.St} {ρ : Rho} {D' : Ends} {st : Stmt} {rest body orelse : List Stmt} {f g : Rho → Out} {e a tg iter : Expr} {fe fa : Rho → Res D} {pos pos' : Pos} {α : Type}
/-! ### a, b = e -/
def unpK (g : GG) (ρ : Rho) (d : D) : Out := if d.dup then (match g d ρ with | some ρ' => .next ρ' | none => .stuck) else .stuck
def sUnp (g : GG) (f : Rho → Res D) : Rho → Out := fun ρ => oBind (f ρ) ρ (unpK g ρ)
theorem ss_unp {g : GG} {vs : List Nat} (he : EB G X W e fe) (hg : GT G X vs tg g) (hs : swapsWithSole [tg] e pos.line X.env = pure false := by rfl) (hw : swappedStores [tg] e X.env = pure none := by rfl) (h1 : (assignEach [tg] X.env).map (·.2) = [assign tg X.env] := by rfl) :
    SS G X W (.Assign [tg] e pos) (sUnp g fe) :=
  ps_pre (ps_asg he hg hs hw h1) fun D' σ H ⟨ρ, F, B, rel, k⟩ => ⟨ρ, F, B, rel, (kS.bind rel k).mono fun d F1 B1 H1 x1 k1 v p hd => by
    unfold unpK at k1
    by_cases c : d.dup = true
    · rw [if_pos c] at k1
      obtain rfl := hd.fp_dup c
      cases z : g d ρ with
      | none => rw [z] at k1; exact k1.elim
      | some ρ' => rw [z] at k1; exact ⟨ρ, F1, B1, d, ρ', rel.ext x1, hd, z, fun σ' rel' _ => k1 σ' F1 B1 H1 rel'⟩
    · rw [if_neg c] at k1; exact k1.elim⟩

/-! ### x += e (whole numbers) -/
def augK (op : Int → Int → Int) (i : Nat) (ρ : Rho) (d : D) : Out := match ρ[i]?, d with
  | some (some (.int x)), .int y => .next (ρ.set i (some (.int (op x y))))
  | _, _ => .stuck
def sAug (op : Int → Int → Int) (i : Nat) (f : Rho → Res D) : Rho → Out := fun ρ => match ρ[i]? with
  | some (some (.int _)) => oBind (f ρ) ρ (augK op i ρ)
  | _ => .stuck
theorem ss_aug {op : Operator} {g : Int → Int → Int} (i : Nat) {x : Str} (ho : PIp X op (ipI g)) (hp : PinOk G i) (hN : X.N.Nodup) (he : EB G X W e fe) (hi : X.N[i]? = some x := by rfl) (hx : Loc X.env.scope x := by first | exact Or.inl rfl | exact Or.inr rfl)
    (hf : X.fn x = true ∨ X.env.scope.names.lookup x = some .local := by first | exact .inl rfl | exact .inr rfl) : SS G X W (.AugAssign (.Name x pos') op e pos) (sAug g i fe) :=
  ps_pre (ps_aug hN hi hx he ho hf) fun D' σ H ⟨ρ, F, B, rel, k⟩ => by
    unfold sAug at k
    split at k
    · rename_i n en
      obtain ⟨fp, s, nd⟩ := rel.slots
      obtain ⟨v, q, e1, h, _⟩ := s.get en
      cases h
      refine ⟨_, e1, ρ, F, B, rel, (kS.bind rel k).mono fun d F1 B1 H1 x1 k1 v p hd => ?_⟩
      unfold augK at k1
      rw [en] at k1
      cases d <;> first | exact k1.elim | skip
      cases hd
      exact ⟨_, _, rfl, rfl, k1 _ F1 B1 H1 (rel.set x1 i hp (.int _) List.nodup_nil fun _ z => nomatch z)⟩
    · exact k.elim

/-! ### own lists changed -/
theorem upd_same_at {a b : Addr} {o : HO} (h : b ≠ a) : upd H a o b = H b := upd_ne h
/-- an own list in a slot gets other items -/
theorem Slots.mut {ds : List D} : ∀ {σ : L2.St} {ρ : Rho} {p : List Addr} {i : Nat}, Slots G.T F B H σ ρ p → ρ[i]? = some (some (.lst .own ds)) → p.Nodup →
    ∃ a vs q, σ[i]? = some (some (.ref a)) ∧ H a = some (.lst vs) ∧ B a = none ∧ Dats G.T F B H vs ds q ∧ D.retAll ds = true ∧ (a :: q).Nodup ∧ (∀ b ∈ a :: q, b ∈ p) ∧
      ∀ vs' ds' q', Dats G.T F B (upd H a (.lst vs')) vs' ds' q' → D.retAll ds' = true → (a :: q').Nodup → (∀ b ∈ q', b ∈ q ∨ b ∉ p) →
        ∃ p', Slots G.T F B (upd H a (.lst vs')) σ (ρ.set i (some (.lst .own ds'))) p' ∧ p'.Nodup ∧ ∀ b ∈ p', b ∈ p ∨ b ∈ q'
  | _, _, _, _, .nil, e, _ => by simp at e
  | _, _, _, 0, .un t, e, _ => by simp at e
  | _, _, _, i + 1, .un t, e, n => by
    obtain ⟨a, vs, q, h1, h2, h3, h4, h5, h6, h7, k⟩ := t.mut (i := i) (by simpa using e) n
    refine ⟨a, vs, q, by simpa using h1, h2, h3, h4, h5, h6, h7, fun vs' ds' q' g1 g2 g3 g4 => ?_⟩
    obtain ⟨p', s, n', m⟩ := k vs' ds' q' g1 g2 g3 g4
    exact ⟨p', .un s, n', m⟩
  | _, _, _, 0, .val (q := r) hd t, e, n => by
    simp at e
    subst e
    cases hd with
    | own ea en es er =>
      obtain ⟨n1, n2, n3⟩ := List.nodup_append.mp n
      refine ⟨_, _, _, by simp, ea, en, es, er, n1, fun b z => List.mem_append_left _ z, fun vs' ds' q' g1 g2 g3 g4 => ?_⟩
      refine ⟨_, .val (.own upd_same en g1 g2) (t.stay (.refl _) (.refl _) fun b z => ⟨upd_ne fun y => n3 _ List.mem_cons_self _ z y.symm, (t.foot b z).2⟩), List.nodup_append.mpr ⟨g3, n2, fun b z c y w => ?_⟩, fun b z => ?_⟩
      · subst w
        rcases List.mem_cons.mp z with rfl | z
        · exact n3 _ List.mem_cons_self _ y rfl
        · rcases g4 _ z with w | w
          · exact n3 _ (List.mem_cons_of_mem _ w) _ y rfl
          · exact w (List.mem_append_right _ y)
      · rcases List.mem_append.mp z with z | z
        · rcases List.mem_cons.mp z with rfl | z
          · exact .inl (List.mem_append_left _ List.mem_cons_self)
          · exact .inr z
        · exact .inl (List.mem_append_right _ z)
  | _, _, _, i + 1, .val (p := p1) (q := r) hd t, e, n => by
    obtain ⟨n1, n2, n3⟩ := List.nodup_append.mp n
    obtain ⟨a, vs, q, h1, h2, h3, h4, h5, h6, h7, k⟩ := t.mut (i := i) (by simpa using e) n2
    refine ⟨a, vs, q, by simpa using h1, h2, h3, h4, h5, h6, fun b z => List.mem_append_right _ (h7 b z), fun vs' ds' q' g1 g2 g3 g4 => ?_⟩
    obtain ⟨p', s, n', m⟩ := k vs' ds' q' g1 g2 g3 fun b z => (g4 b z).imp id fun y w => y (List.mem_append_right _ w)
    refine ⟨_, .val (hd.stay (.refl _) (.refl _) fun b z => ⟨upd_ne fun y => n3 _ z _ (h7 a List.mem_cons_self) y, (hd.foot b z).2⟩) s, List.nodup_append.mpr ⟨n1, n', fun b z c y w => ?_⟩, fun b z => ?_⟩
    · subst w
      rcases m _ y with w | w
      · exact n3 _ z _ w rfl
      · rcases g4 _ w with w | w
        · exact n3 _ z _ (h7 _ (List.mem_cons_of_mem _ w)) rfl
        · exact w (List.mem_append_left _ z)
    · rcases List.mem_append.mp z with z | z
      · exact .inl (List.mem_append_left _ z)
      · exact (m b z).imp (fun w => List.mem_append_right _ w) id
theorem Base.upd {a : Addr} {o : HO} (b : Base G F B H) (n : B a = none) : Base G F B (upd H a o) :=
  ⟨b.f0, b.fb, fun c x e => by rw [upd_ne (ne_of_none e n)]; exact b.bh c x e, b.h0, b.of0⟩
def appK (i : Nat) (ρ : Rho) (d : D) : Out := match ρ[i]? with
  | some (some (.lst .own xs)) => if d.ret = true ∧ xs.length < LINE then .next (ρ.set i (some (.lst .own (xs ++ [d])))) else .stuck
  | _ => .stuck
def sApp (i : Nat) (f : Rho → Res D) : Rho → Out := fun ρ => match ρ[i]? with
  | some (some (.lst .own _)) => oBind (f ρ) ρ (appK i ρ)
  | _ => .stuck
theorem ss_app (i : Nat) {x : Str} {p1 p2 p3 : Pos} (hK : X.K = G.K) (he : EV G X W e fe) (hi : X.N[i]? = some x := by rfl) (hv : Vis X.env.scope x := by first | exact Or.inl rfl | exact Or.inr (Or.inl rfl) | exact Or.inr (Or.inr rfl))
    (hd : (x == ("__debug__" : Str)) = false := by decide) (hcd : (x == ("__classdict__" : Str)) = false := by decide)
    (hbase : attributeBase (.Name x p1) "append" X.env (eval (.Name x p1) X.env) = eval (.Name x p1) X.env := by rfl)
    (hfew : ((backTo p3 (starEach (e :: []) X.env)).all (fun x => !x.1) && (backToKw p3 (keywordEach [] X.env)).all (fun x => x.1.isSome)
      && decide ((e :: []).length + ([] : List Keyword).length + (if ([] : List Keyword).isEmpty then 0 else 1) < 30)) = true := by rfl)
    (hline : (p2.endLine == p3.line) = true := by rfl) (hs : starEach (e :: []) X.env = (false, eval e X.env) :: starEach [] X.env := by rfl) (hplain : (backTo p3 (starEach [] X.env)).any (·.1) = false := by rfl)
    (hsw : swapsWith (.Call (.Attribute (.Name x p1) "append" p2) [e] [] p3) none pos.line X.env = pure false := by rfl) :
    SS G X W (.Expr (.Call (.Attribute (.Name x p1) "append" p2) [e] [] p3) pos) (sApp i fe) :=
  ps_pre (ps_expr (pe_bm PySem.F.plainAttrs_list PySem.F.slot_list_append PySem.F.type_list_append mt_append (pe_var hi hv hd hcd) (pa_cons he pa_nil hs) hbase hfew hline hs hplain) hsw) fun D' σ H ⟨ρ, F, B, rel, k⟩ => by
    unfold sApp at k
    split at k
    · rename_i xs en
      obtain ⟨fp, s, nd⟩ := rel.slots
      obtain ⟨a, vs, q, h1, h2, _⟩ := s.mut en nd
      refine ⟨.ref a, h1, Or.inl ⟨rfl, _, SqL.of h2⟩, ρ, F, B, rel, (kS.bind rel k).mono fun d F1 B1 H1 x1 k1 v p hd ndp new => ?_⟩
      unfold appK at k1
      rw [en] at k1
      have k1 : kS G W D' (if d.ret = true ∧ xs.length < LINE then .next (ρ.set i (some (.lst .own (xs ++ [d])))) else .stuck) := k1
      by_cases c : d.ret = true ∧ xs.length < LINE
      · rw [if_pos c] at k1
        obtain ⟨a', vs', q', g1, g2, g3, g4, g5, g6, g7, kk⟩ := (s.ext x1).mut en nd
        rw [h1] at g1
        cases g1
        refine ⟨a, vs', v, rfl, rfl, g2, by rw [g4.length, line_eq]; exact c.2, ?_⟩
        have na : H a ≠ none := by rw [h2]; exact fun z => nomatch z
        have nap : a ∉ p := fun z => na (new a z)
        have naq : a ∉ q' := (List.nodup_cons.mp g6).1
        have hfr : ∀ b ∈ q', upd H1 a (.lst (vs' ++ [v])) b = H1 b ∧ B1 b = none := fun b z => ⟨upd_ne fun y => naq (y ▸ z), (g4.foot b z).2⟩
        have hfp : ∀ b ∈ p, upd H1 a (.lst (vs' ++ [v])) b = H1 b ∧ B1 b = none := fun b z => ⟨upd_ne fun y => nap (y ▸ z), (hd.foot b z).2⟩
        have new' : ∀ b ∈ p, b ∉ fp := fun b z y => ((s.foot b y).1) (new b z)
        have dd : Dats G.T F1 B1 (upd H1 a (.lst (vs' ++ [v]))) (vs' ++ [v]) (xs ++ [d]) (q' ++ (p ++ [])) := (g4.stay (.refl _) (.refl _) hfr).append (.cons (hd.stay (.refl _) (.refl _) hfp) .nil)
        rw [List.append_nil] at dd
        obtain ⟨p', s', n', _⟩ := kk _ _ _ dd (by rw [retAll_append, g5]; show (true && (d.ret && true)) = true; rw [c.1]; rfl)
          (List.nodup_cons.mpr ⟨fun z => (List.mem_append.mp z).elim naq nap, List.nodup_append.mpr ⟨(List.nodup_cons.mp g6).2, ndp, fun b z c y w => by subst w; exact new' _ y (g7 _ (List.mem_cons_of_mem _ z))⟩⟩)
          fun b z => (List.mem_append.mp z).imp id fun y => new' b y
        exact k1 σ F1 B1 _ ⟨((rel.ext x1).base).upd g3, ⟨p', s', n'⟩, rel.pin⟩
      · rw [if_neg c] at k1; exact k1.elim
    · exact k.elim

/-! ### xs[i] = e -/
def setK (i : Nat) (ρ : Rho) (j : D) (d : D) : Out := match ρ[i]?, j with
  | some (some (.lst .own xs)), .int n => (match ixN xs.length n with
    | some m => if d.ret = true ∧ d.dup = true ∧ D.dupAll xs = true then .next (ρ.set i (some (.lst .own (xs.set m d)))) else .stuck
    | none => .stuck)
  | _, _ => .stuck
/-- the item's place is asked behind the value -/
def sIx (i : Nat) (fi f : Rho → Res D) : Rho → Out := fun ρ => match ρ[i]? with
  | some (some (.lst .own _)) => oBind (f ρ) ρ fun d => oBind (fi ρ) ρ fun j => setK i ρ j d
  | _ => .stuck
theorem Dats.set0 : ∀ {vs : List V} {ds : List D} (m : Nat) {v : V} {d : D}, Dats G.T F B H vs ds [] → Dat G.T F B H v d [] → Dats G.T F B H (vs.set m v) (ds.set m d) []
  | _, [], m, v, d, h, hd => by
    obtain ⟨rfl, _⟩ := h.unnil
    exact h
  | _, c :: ds, 0, v, d, h, hd => by
    obtain ⟨w, ws, rfl, h1, h2⟩ := h.uncons0
    exact .cons0 hd h2
  | _, c :: ds, m + 1, v, d, h, hd => by
    obtain ⟨w, ws, rfl, h1, h2⟩ := h.uncons0
    exact .cons0 h1 (Dats.set0 m h2 hd)
theorem retAll_set {ds : List D} {m : Nat} {d : D} (h : D.retAll ds = true) (hd : d.ret = true) : D.retAll (ds.set m d) = true := retAll_iff.mpr fun x z => (List.mem_or_eq_of_mem_set z).elim (retAll_iff.mp h x) fun e => e ▸ hd
theorem dupAll_set {ds : List D} {m : Nat} {d : D} (h : D.dupAll ds = true) (hd : d.dup = true) : D.dupAll (ds.set m d) = true := dupAll_iff.mpr fun x z => (List.mem_or_eq_of_mem_set z).elim (dupAll_iff.mp h x) fun e => e ▸ hd
theorem ss_ix (i : Nat) {x : Str} {p1 p2 : Pos} {ix : Expr} {fi : Rho → Res D} (he : EB G X W e fe) (hix : EB G X W ix fi) (hi : X.N[i]? = some x := by rfl) (hv : Vis X.env.scope x := by first | exact Or.inl rfl | exact Or.inr (Or.inl rfl) | exact Or.inr (Or.inr rfl))
    (hd : (x == ("__debug__" : Str)) = false := by decide) (hcd : (x == ("__classdict__" : Str)) = false := by decide)
    (ha : ∀ v, assign (.Subscript (.Name x p1) ix p2) X.env v = (do
      let ov ← holding [v] (eval (.Name x p1) X.env)
      let iv ← holding [v, ov] (eval ix X.env)
      standAt p2
      holding [v, ov, iv] (setItem ov iv v)
      release [v, ov, iv] []) := by intro _; rfl)
    (hs : swapsWithSole [.Subscript (.Name x p1) ix p2] e pos.line X.env = pure false := by rfl) (hw : swappedStores [.Subscript (.Name x p1) ix p2] e X.env = pure none := by rfl)
    (h1 : (assignEach [.Subscript (.Name x p1) ix p2] X.env).map (·.2) = [assign (.Subscript (.Name x p1) ix p2) X.env] := by rfl) :
    SS G X W (.Assign [.Subscript (.Name x p1) ix p2] e pos) (sIx i fi fe) :=
  ps_pre (ps_asg he (pg_sub (pe_var hi hv hd hcd) hix set_list ha) hs hw h1) fun D' σ H ⟨ρ, F, B, rel, k⟩ => by
    unfold sIx at k
    split at k
    · rename_i xs en
      refine ⟨ρ, F, B, rel, (kS.bind rel k).mono fun d F1 B1 H1 x1 k1 v p hd => ?_⟩
      obtain ⟨fp, s, nd⟩ := rel.slots
      obtain ⟨a, vs, q, h1, h2, _⟩ := s.mut en nd
      refine ⟨.ref a, h1, ρ, F1, B1, rel.ext x1, (kS.bind (rel.ext x1) k1).mono fun j F2 B2 H2 x2 k2 w r hj => ?_⟩
      cases j <;> first | (unfold setK at k2; rw [en] at k2; exact k2.elim) | skip
      rename_i n
      cases hj
      unfold setK at k2
      rw [en] at k2
      cases z : ixN xs.length n with
      | none => simp only [z] at k2; exact k2.elim
      | some m =>
        simp only [z] at k2
        by_cases c : d.ret = true ∧ d.dup = true ∧ D.dupAll xs = true
        · rw [if_pos c] at k2
          obtain ⟨c1, c2, c3⟩ := c
          obtain rfl := hd.fp_dup c2
          have hd2 := hd.ext x2
          obtain ⟨a', vs', q', g1, g2, g3, g4, g5, g6, g7, kk⟩ := (s.ext (x1.trans x2)).mut en nd
          rw [h1] at g1
          cases g1
          obtain rfl := g4.fp_dup c3
          refine ⟨a, vs', n, m, rfl, rfl, g2, by rw [g4.length]; exact z, ?_⟩
          obtain ⟨p', s', n', _⟩ := kk (vs'.set m v) (xs.set m d) [] ((g4.set0 m hd2).stay (.refl _) (.refl _) fun _ z => nomatch z) (retAll_set g5 c1) (nd1 a) fun _ z => nomatch z
          exact k2 σ F2 B2 _ ⟨(((rel.ext x1).ext x2).base).upd g3, ⟨p', s', n'⟩, rel.pin⟩
        · rw [if_neg c] at k2; exact k2.elim
    · exact k.elim

/-! ### what a slot holds is frozen from here on -/
theorem Slots.frz : ∀ {σ : L2.St} {ρ : Rho} {p : List Addr} {i : Nat} {d : D}, Slots G.T F B H σ ρ p → ρ[i]? = some (some d) → d.ret = true → p.Nodup →
    ∃ q r : List Addr, (∀ b ∈ q, B b = none ∧ H b ≠ none) ∧ (∀ F' B' : Hp, Same F F' → Same B B' → (∀ b ∈ q, F' b = H b) → (∀ b, b ∉ q → B' b = B b) → Slots G.T F' B' H σ (ρ.set i (some d.frz)) r) ∧ r.Nodup ∧ (∀ b ∈ q, b ∉ r) ∧ (∀ b ∈ r, b ∈ p) ∧ ∀ b ∈ q, b ∈ p
  | _, _, _, _, _, .nil, e, _, _ => by simp at e
  | _, _, _, 0, _, .un t, e, _, _ => by simp at e
  | _, _, _, i + 1, _, .un t, e, c, n => by
    obtain ⟨q, r, h1, h2, h3, h4, h5, h6⟩ := t.frz (i := i) (by simpa using e) c n
    exact ⟨q, r, h1, fun F' B' g1 g2 g3 g4 => .un (h2 F' B' g1 g2 g3 g4), h3, h4, h5, h6⟩
  | _, _, _, 0, _, .val (p := p1) (q := r) hd t, e, c, n => by
    simp at e
    subst e
    obtain ⟨n1, n2, n3⟩ := List.nodup_append.mp n
    refine ⟨p1, r, fun b z => ⟨(hd.foot b z).2, (hd.foot b z).1⟩, fun F' B' g1 g2 g3 g4 => ?_, n2, fun b z y => n3 b z b y rfl, fun b z => List.mem_append_right _ z, fun b z => List.mem_append_left _ z⟩
    exact Slots.val (hd.froz g1 g2 c g3) (t.stay g1 g2 fun b z => ⟨rfl, (g4 b fun y => n3 b y b z rfl).trans (t.foot b z).2⟩)
  | _, _, _, i + 1, _, .val (p := p1) (q := r0) hd t, e, c, n => by
    obtain ⟨n1, n2, n3⟩ := List.nodup_append.mp n
    obtain ⟨q, r, h1, h2, h3, h4, h5, h6⟩ := t.frz (i := i) (by simpa using e) c n2
    refine ⟨q, p1 ++ r, h1, fun F' B' g1 g2 g3 g4 => .val (hd.stay g1 g2 fun b z => ⟨rfl, (g4 b fun y => n3 b z b (h6 b y) rfl).trans (hd.foot b z).2⟩) (h2 F' B' g1 g2 g3 g4), List.nodup_append.mpr ⟨n1, h3, fun b z c y => n3 b z c (h5 c y)⟩, fun b z y => ?_, fun b z => ?_, fun b z => List.mem_append_right _ (h6 b z)⟩
    · rcases List.mem_append.mp y with y | y
      · exact n3 b y b (h6 b z) rfl
      · exact h4 b z y
    · rcases List.mem_append.mp z with z | z
      · exact List.mem_append_left _ z
      · exact List.mem_append_right _ (h5 b z)
def sFrz (i : Nat) (f : Rho → Out) : Rho → Out := fun ρ => match ρ[i]? with
  | some (some d) => if d.ret then f (ρ.set i (some d.frz)) else .stuck
  | _ => .stuck
theorem sb_frz (i : Nat) (h : SB G X W rest f) : SB G X W rest (sFrz i f) := pss_pre h fun D' σ H ⟨ρ, F, B, rel, k⟩ => by
  unfold sFrz at k
  split at k
  · rename_i d e
    by_cases c : d.ret = true
    · rw [if_pos c] at k
      obtain ⟨fp, s, nd⟩ := rel.slots
      obtain ⟨q, r, h1, h2, h3, h4, h5, h6⟩ := s.frz e c nd
      have fn : ∀ b ∈ q, F b = none := fun b z => rel.base.fb.free (h1 b z).1
      refine ⟨_, frzH H q F, frzH H q B, ⟨⟨rel.base.f0.trans (mem_frzH fn), fun b o y => ?_, fun b o y => ?_, rel.base.h0.trans (mem_frzH fun b z => (h1 b z).1), fun a n => ?_⟩,
        ⟨r, h2 _ _ (mem_frzH fn) (mem_frzH fun b z => (h1 b z).1) (fun b z => frzH_in z) fun b z => frzH_out z, h3⟩, rel.pin⟩, k⟩
      · by_cases z : b ∈ q
        · rw [frzH_in z] at y ⊢; exact y
        · rw [frzH_out z] at y ⊢; exact rel.base.fb _ _ y
      · by_cases z : b ∈ q
        · rw [frzH_in z] at y; exact y
        · rw [frzH_out z] at y; exact rel.base.bh _ _ y
      · have z : a ∉ q := fun z => by
          have w := (h1 a z).1
          cases y : G.H0 a with
          | none => exact n y
          | some o =>
            rw [rel.base.h0 a o y] at w
            cases w
        rw [frzH_out z]
        exact rel.base.of0 a n
    · rw [if_neg c] at k; exact k.elim
  · exact k.elim

/-! ### if -/
def sIf (t : Rho → Res Bool) (f g : Rho → Out) : Rho → Out := fun ρ => oBind (t ρ) ρ fun b => if b then f ρ else g ρ
theorem ss_if {c : Expr} {tc : Rho → Res Bool} {b1 b2 : List Stmt} (hc : ET G X W c tc) (h1 : SB G X W b1 f) (h2 : SB G X W b2 g) : SS G X W (.If c b1 b2 pos) (sIf tc f g) :=
  ps_pre (ps_if hc h1 h2) fun D' σ H ⟨ρ, F, B, rel, k⟩ => ⟨ρ, F, B, rel, (kS.bind rel k).mono fun b F1 B1 H1 x1 k1 => by
    cases b with
    | true => exact ⟨ρ, F1, B1, rel.ext x1, k1⟩
    | false => exact ⟨ρ, F1, B1, rel.ext x1, k1⟩⟩
end
end DH
namespace DH
open PySem L2

/-! ### what is walked -/
/-- the iterator J gives the items ds, which stand in F, B -/
def ItS (T : Tx) (J : It) (F B : Hp) (ds : List D) : Prop :=
  ∀ i Hc, Same B Hc → (i < ds.length → J.go i Hc) ∧ (ds.length ≤ i → J.stop i Hc) ∧ ∀ x H', J.yld i Hc x H' → H' = Hc ∧ ∀ d, ds[i]? = some d → Dat T F B Hc x d []
def tI (G : Gam) (W : WX) (f : Rho → Res (List D)) : TI := fun σ H R => ∃ ρ F B, RelS G ρ F B σ H ∧ kE G.T W σ F B H (f ρ) fun ds F' B' H' => ∀ J F2 B2, Ext F B H F2 B2 H' → ItS G.T J F2 B2 ds → R J H'
abbrev IT (G : Gam) (X : L2.Cx) (W : WX) (tg iter : Expr) (f : Rho → Res (List D)) : Prop := PI X tg iter (tI G W f)
/-- the items of a list or a tuple: what is own and new is lent -/
def itemsD : D → Res (List D)
  | .lst .frz xs => .ok xs
  | .lst .bor xs => .ok xs
  | .tup xs => if D.dupAll xs then .ok xs else .stuck
  | _ => .stuck
/-- the items of a new list -/
def newItemsD : D → Res (List D)
  | .lst .own xs => if D.dupAll xs then .ok xs else .stuck
  | .lst .frz xs => .ok xs
  | .lst .bor xs => .ok xs
  | _ => .stuck
def iOf (f : Rho → Res D) : Rho → Res (List D) := fun ρ => (f ρ).bind itemsD
def iNew (f : Rho → Res D) : Rho → Res (List D) := fun ρ => (f ρ).bind newItemsD
def rngL (lo : Int) (n : Nat) : List D := (List.range n).map fun (i : Nat) => .int (lo + (i : Int))
def rng1D : List D → Res (List D)
  | [.int n] => if n < 4611686018427387904 ∧ -4611686018427387904 ≤ n then .ok (rngL 0 n.toNat) else .stuck
  | _ => .stuck
def rng2D : List D → Res (List D)
  | [.int a, .int b] => if a < 4611686018427387904 ∧ -4611686018427387904 ≤ a ∧ b < 4611686018427387904 ∧ -4611686018427387904 ≤ b then .ok (rngL a (b - a).toNat) else .stuck
  | _ => .stuck
def iRg (g : List D → Res (List D)) (f : Rho → Res (List D)) : Rho → Res (List D) := fun ρ => (f ρ).bind g
section
variable {G : Gam} {W : WX} {X : L2.Cx} {F B H : Hp} {σ : L2.St} {ρ : Rho} {D' : Ends} {st : Stmt} {rest body orelse : List Stmt} {f : Rho → Out} {e a tg iter : Expr} {fe fa : Rho → Res D} {pos pos' p : Pos} {α : Type}
theorem pi_pre {tg iter : Expr} {t t' : TI} (h : PI X tg iter t) (k : ∀ σ H R, t' σ H R → t σ H R) : PI X tg iter t' := ⟨fun pins s σ H R I q => h.run pins s σ H R I (k σ H R q)⟩
theorem its_listI {T : Tx} {a : Addr} {vs : List V} {ds : List D} (e : B a = some (.lst vs)) (h : Dats T F B H vs ds []) : ItS T (Itl T.K a) F B ds := fun i Hc s => by
  have sq : SqL T.K Hc a vs := SqL.of (s _ _ e)
  have hl := h.length
  refine ⟨fun hi => ?_, fun hi => ⟨vs, sq, by omega⟩, fun x H' ⟨e1, k⟩ => ⟨e1, fun d hd => ?_⟩⟩
  · have hi' : i < vs.length := by omega
    exact ⟨vs, vs[i], sq, List.getElem?_eq_getElem hi'⟩
  · obtain ⟨v, q, e2, h2, m⟩ := h.get hd
    have e3 := k vs sq
    rw [e2] at e3
    cases e3
    have q0 : q = [] := by
      cases q with
      | nil => rfl
      | cons b q => exact absurd (m b List.mem_cons_self) (by simp)
    subst q0
    exact h2.stay (.refl _) (.refl _) fun _ z => nomatch z
theorem its_tup {T : Tx} {a : Addr} {vs : List V} {ds : List D} (fb : Same F B) (e : SqT T.K F a vs) (h : Dats T F B H vs ds []) : ItS T (Itt T.K a) F B ds := fun i Hc s => by
  have sq : SqT T.K Hc a vs := seqT_same (fb.trans s) e
  have hl := h.length
  refine ⟨fun hi => ?_, fun hi => ⟨vs, sq, by omega⟩, fun x H' ⟨e1, k⟩ => ⟨e1, fun d hd => ?_⟩⟩
  · have hi' : i < vs.length := by omega
    exact ⟨vs, vs[i], sq, List.getElem?_eq_getElem hi'⟩
  · obtain ⟨v, q, e2, h2, m⟩ := h.get hd
    have e3 := k vs sq
    rw [e2] at e3
    cases e3
    have q0 : q = [] := by
      cases q with
      | nil => rfl
      | cons b q => exact absurd (m b List.mem_cons_self) (by simp)
    subst q0
    exact h2.stay (.refl _) (.refl _) fun _ z => nomatch z
theorem its_rng {T : Tx} (lo : Int) (n : Nat) : ItS T (Itr lo n) F B (rngL lo n) := fun i Hc s => by
  have hl : (rngL lo n).length = n := by unfold rngL; rw [List.length_map, List.length_range]
  refine ⟨fun hi => ?_, fun hi => ?_, fun x H' ⟨e1, e2⟩ => ⟨e1, fun d hd => ?_⟩⟩
  · rw [hl] at hi; exact hi
  · rw [hl] at hi; exact hi
  · unfold rngL at hd
    rw [List.getElem?_map] at hd
    cases z : (List.range n)[i]? with
    | none => rw [z] at hd; cases hd
    | some j =>
      rw [z] at hd
      obtain ⟨h1, h2⟩ := List.getElem?_eq_some_iff.mp z
      rw [List.getElem_range] at h2
      subst h2
      cases hd
      subst e2
      exact .int _
/-- a list or a tuple walked -/
theorem pi_seq {l : Expr} {tl : TE} (hl : PE X l tl) : PI X tg l (fun σ H R => tl σ H fun x H1 => ∃ a, x = .ref a ∧ (((∃ xs, SqL X.K H1 a xs) ∧ R (Itl X.K a) H1) ∨ ((∃ xs, SqT X.K H1 a xs) ∧ R (Itt X.K a) H1))) := by
  refine ⟨fun pins s σ H R I h => ?_⟩
  refine thn (hl.run pins s σ H _ I h) fun v s1 ⟨x, H1, I1, r1, q1⟩ => ?_
  obtain ⟨a, e, q1⟩ := q1
  subst e
  cases r1
  rcases q1 with ⟨⟨xs, hq⟩, q⟩ | ⟨⟨xs, hq⟩, q⟩
  · obtain ⟨its, rv, p, hz⟩ := I1.list hq
    refine wpAny_pyIter_list p.isList ?_
    refine ⟨s1.heap.objs.size, [s1.heap.objs.size], _, _, H1, rfl, I1.kept (t' := s1.toks) fun b o e => Heap.get?_push_of_some _ e, turn_list a _, ⟨_, Heap.get?_push_size _ rfl, rfl, rfl⟩, fun b hb => ?_, q⟩
    have e : b = s1.heap.objs.size := by simpa using hb
    subst e
    exact I1.fpOk (Nat.le_refl _) (I1.hok.fresh (Nat.le_refl _))
  · obtain ⟨its, rv, p, hz⟩ := I1.tuple hq
    refine wpAny_pyIter_tuple (show s1.heap.IsTuple a its.toArray from p) ?_
    refine ⟨s1.heap.objs.size, [s1.heap.objs.size], _, _, H1, rfl, I1.kept (t' := s1.toks) fun b o e => Heap.get?_push_of_some _ e, turn_tuple a _, ⟨_, Heap.get?_push_size _ rfl, rfl, rfl⟩, fun b hb => ?_, q⟩
    have e : b = s1.heap.objs.size := by simpa using hb
    subst e
    exact I1.fpOk (Nat.le_refl _) (I1.hok.fresh (Nat.le_refl _))
/-- .. that is frozen or lent -/
theorem it_seq (hK : X.K = G.K) (h : EB G X W e fe) : IT G X W tg e (iOf fe) :=
  pi_pre (pi_seq h) fun σ H R ⟨ρ, F, B, rel, k⟩ => ⟨ρ, F, B, rel, (kE.bind k).mono fun d F1 B1 H1 x1 k1 v p hd => by
    have b1 := rel.base.ext x1
    rw [hK]
    cases d with
    | lst l xs =>
      obtain ⟨a, vs, q, rfl, ea, ds, _, g2, _⟩ := hd.lst b1
      cases l with
      | frz =>
        obtain ⟨rfl, rfl, eb⟩ := g2 rfl
        exact ⟨a, rfl, .inl ⟨⟨vs, SqL.of ea⟩, kE.ok x1.fb x1.bh k1 _ F1 B1 x1 (its_listI eb ds)⟩⟩
      | bor =>
        obtain ⟨rfl, rfl, eb⟩ := g2 rfl
        exact ⟨a, rfl, .inl ⟨⟨vs, SqL.of ea⟩, kE.ok x1.fb x1.bh k1 _ F1 B1 x1 (its_listI eb ds)⟩⟩
      | own => exact k1.elim
      | tmp => exact k1.elim
    | tup xs =>
      have k1 : kE G.T W σ F1 B1 H1 (if D.dupAll xs then .ok xs else .stuck) _ := k1
      by_cases c : D.dupAll xs = true
      · rw [if_pos c] at k1
        cases hd with
        | tup ea ds =>
          obtain rfl := ds.fp_dup c
          exact ⟨_, rfl, .inr ⟨⟨_, seqT_same (x1.fb.trans x1.bh) ea⟩, kE.ok x1.fb x1.bh k1 _ F1 B1 x1 (its_tup x1.fb ea ds)⟩⟩
      · rw [if_neg c] at k1; exact k1.elim
    | _ => exact k1.elim⟩
theorem Ext.lend {F' B' H' : Hp} {p : List Addr} (x : Ext F B H F' B' H') (new : ∀ a ∈ p, H a = none) (foot : ∀ a ∈ p, B' a = none) : Ext F B H F' (frzH H' p B') H' := by
  refine ⟨x.f, x.b.trans (mem_frzH foot), x.h, x.fb.trans (mem_frzH foot), fun b o e => ?_, x.of, fun a m => ?_⟩
  · by_cases h : b ∈ p
    · rw [frzH_in h] at e; exact e
    · rw [frzH_out h] at e; exact x.bh _ _ e
  · rw [frzH_out fun z => m (new a z)]; exact x.ob a m
/-- .. that is new -/
theorem it_new (hK : X.K = G.K) (h : EV G X W e fe) : IT G X W tg e (iNew fe) :=
  pi_pre (pi_seq h) fun σ H R ⟨ρ, F, B, rel, k⟩ => ⟨ρ, F, B, rel, (kE.bind k).mono fun d F1 B1 H1 x1 k1 v p hd nd new => by
    have b1 := rel.base.ext x1
    rw [hK]
    cases d with
    | lst l xs =>
      obtain ⟨a, vs, q, rfl, ea, ds, _, g2, _⟩ := hd.lst b1
      cases l with
      | frz =>
        obtain ⟨rfl, rfl, eb⟩ := g2 rfl
        exact ⟨a, rfl, .inl ⟨⟨vs, SqL.of ea⟩, kE.ok x1.fb x1.bh k1 _ F1 B1 x1 (its_listI eb ds)⟩⟩
      | bor =>
        obtain ⟨rfl, rfl, eb⟩ := g2 rfl
        exact ⟨a, rfl, .inl ⟨⟨vs, SqL.of ea⟩, kE.ok x1.fb x1.bh k1 _ F1 B1 x1 (its_listI eb ds)⟩⟩
      | own =>
        have k1 : kE G.T W σ F1 B1 H1 (if D.dupAll xs then .ok xs else .stuck) _ := k1
        by_cases c : D.dupAll xs = true
        · rw [if_pos c] at k1
          obtain rfl := ds.fp_dup c
          have foot : ∀ b ∈ p, B1 b = none := fun b z => (hd.foot b z).2
          have xl := x1.lend new foot
          have ma : a ∈ p := by
            cases hd with
            | own _ _ _ _ => exact List.mem_cons_self
          refine ⟨a, rfl, .inl ⟨⟨vs, SqL.of ea⟩, kE.ok x1.fb x1.bh k1 _ F1 (frzH H1 p B1) xl (its_listI (H := H1) ?_ (ds.stay (.refl _) (mem_frzH foot) fun _ z => nomatch z))⟩⟩
          rw [frzH_in ma]
          exact ea
        · rw [if_neg c] at k1; exact k1.elim
      | tmp => exact k1.elim
    | _ => exact k1.elim⟩
variable {fs : Rho → Res (List D)}
theorem it_rng1 (hm : X.mg "range" = none) (ha : EA G X W [a] fs) (hg : Gl X "range" := by rfl) (hs : starEach [a] X.env = [(false, eval a X.env)] := by rfl) : IT G X W tg (.Call (.Name "range" p) [a] [] pos) (iRg rng1D fs) :=
  pi_pre (pi_range1 hg hm ha hs) fun σ H R ⟨ρ, F, B, rel, k⟩ => ⟨ρ, F, B, rel, (kE.bind k).mono fun ds F1 B1 H1 x1 k1 vs q hd => by
    match ds, k1 with
    | [.int n], k1 =>
      obtain ⟨v, rfl, h1⟩ := hd.one
      cases h1
      obtain ⟨c, k1⟩ := kE.ite k1
      exact ⟨n, rfl, by omega, by omega, kE.ok x1.fb x1.bh k1 _ F1 B1 x1 (its_rng 0 n.toNat)⟩⟩
theorem it_rng2 {b : Expr} (hm : X.mg "range" = none) (ha : EA G X W [a, b] fs) (hg : Gl X "range" := by rfl) (hs : starEach [a, b] X.env = [(false, eval a X.env), (false, eval b X.env)] := by rfl) (hs2 : starEach [b] X.env = [(false, eval b X.env)] := by rfl) :
    IT G X W tg (.Call (.Name "range" p) [a, b] [] pos) (iRg rng2D fs) :=
  pi_pre (pi_range2 hg hm ha hs hs2) fun σ H R ⟨ρ, F, B, rel, k⟩ => ⟨ρ, F, B, rel, (kE.bind k).mono fun ds F1 B1 H1 x1 k1 vs q hd => by
    match ds, k1 with
    | [.int n, .int m], k1 =>
      obtain ⟨v, v', q, q', rfl, h1, h2⟩ := hd.two
      cases h1; cases h2
      obtain ⟨c, k1⟩ := kE.ite k1
      exact ⟨n, m, rfl, ⟨by omega, by omega, by omega, by omega⟩, kE.ok x1.fb x1.bh k1 _ F1 B1 x1 (its_rng n (m - n).toNat)⟩⟩

/-! ### for -/
def forD (g : GG) (f : Rho → Out) : List D → Rho → Out
  | [], ρ => .next ρ
  | d :: ds, ρ => match g d ρ with
    | none => .stuck
    | some ρ1 => match f ρ1 with
      | .next ρ2 => forD g f ds ρ2
      | .cnt ρ2 => forD g f ds ρ2
      | .brk ρ2 => .next ρ2
      | o => o
def sFor (g : GG) (src : Rho → Res (List D)) (f : Rho → Out) : Rho → Out := fun ρ => oBind (src ρ) ρ fun ds => forD g f ds ρ
theorem RelS.at {F1 B1 : Hp} (rel : RelS G ρ F B σ H) (x0 : Same G.F0 F1) (y0 : Same G.H0 B1) (o0 : ∀ a, G.H0 a ≠ none → F1 a = G.F0 a) (f : Same F1 F) (b : Same B1 B) (o : ∀ a, B1 a ≠ none → F a = F1 a) : RelS (G.at B1 F1) ρ F B σ H :=
  ⟨⟨f, rel.base.fb, rel.base.bh, b, o⟩, rel.slots, rel.pin⟩
theorem RelS.un {F1 B1 : Hp} (rel : RelS (G.at B1 F1) ρ F B σ H) (x0 : Same G.F0 F1) (y0 : Same G.H0 B1) (o0 : ∀ a, G.H0 a ≠ none → F1 a = G.F0 a) : RelS G ρ F B σ H :=
  ⟨⟨x0.trans rel.base.f0, rel.base.fb, rel.base.bh, y0.trans rel.base.h0, fun a n => (rel.base.of0 a (Same.there y0 n)).trans (o0 a n)⟩, rel.slots, rel.pin⟩
theorem ss_for {src : Rho → Res (List D)} {g : GG} (hpo : PassesOwn (model X.prog X.w) X.A X.env X.xe) (hc : X.calm = true) (hi : IT G X W tg iter src) {vs : List Nat} (hg : ∀ H0 F0, GT (G.at H0 F0) X vs tg g) (hb : ∀ H0 F0, SB (G.at H0 F0) X W body f)
    (hs : ∀ x, foldedSetIterable iter X.env x = pure x := by intro _; rfl) : SS G X W (.For tg iter body [] pos) (sFor g src f) := by
  refine ⟨fun pins s σ H D' I ⟨ρ, F, B, rel, k⟩ => ?_⟩
  have h1 := kS.bind rel k
  -- the context of the turns is chosen when the source is there
  refine (ps_for (tg := tg) (iter := iter) (body := body) (pos := pos) (wi := tI G W src) (g := fun v σ H Q => ∃ H0 F0, tG (G.at H0 F0) vs g v σ H Q) (tb := fun D σ H => ∃ H0 F0, tS (G.at H0 F0) W f D σ H) hpo hc hi ?_ ?_ hs).run pins s σ H D' I ?_
  · exact ⟨fun pins s σ H v u Q I r ⟨H0, F0, q⟩ => (hg H0 F0).run pins s σ H v u Q I r q⟩
  · exact ⟨fun pins s σ H D I ⟨H0, F0, q⟩ => (hb H0 F0).run pins s σ H D I q⟩
  · refine ⟨ρ, F, B, rel, h1.mono fun ds F1 B1 H1 x1 k1 J F2 B2 x2 hJ => ?_⟩
    have b2 := rel.base.ext x2
    have x0 := b2.f0
    have y0 := b2.h0
    have o0 := b2.of0
    have rel2 : RelS (G.at B2 F2) ρ F2 B2 σ H1 := (rel.ext x2).at x0 y0 o0 (.refl _) (.refl _) fun _ _ => rfl
    refine ⟨fun i m σ H => m = ds.length - i ∧ i ≤ ds.length ∧ ∃ ρ F B, RelS (G.at B2 F2) ρ F B σ H ∧ kS G W D' (forD g f (ds.drop i) ρ), ⟨ds.length, by simp, Nat.zero_le _, ρ, F2, B2, rel2, k1⟩, ?_⟩
    rintro i m σ3 H3 ⟨rfl, hi, ρ3, F3, B3, rel3, k3⟩
    have sb : Same B2 H3 := rel3.base.h0.trans rel3.base.bh
    obtain ⟨j1, j2, j3⟩ := hJ i H3 sb
    by_cases hlt : i < ds.length
    · have ed : ds.drop i = ds[i] :: ds.drop (i + 1) := List.drop_eq_getElem_cons hlt
      rw [ed] at k3
      refine .inr ⟨j1 hlt, fun σ' H' => ∃ ρ F B, RelS (G.at B2 F2) ρ F B σ' H' ∧ kS G W D' (forD g f (ds.drop (i + 1)) ρ), fun σ' H' ⟨ρ', F', B', r', k'⟩ => ⟨ds.length - (i + 1), by omega, rfl, hlt, ρ', F', B', r', k'⟩, fun x H' y => ?_⟩
      obtain ⟨rfl, hd⟩ := j3 x H' y
      have hd := hd _ (List.getElem?_eq_getElem hlt)
      have hd : Dat G.T F3 B3 H' x ds[i] [] := hd.stay rel3.base.f0 rel3.base.h0 fun _ z => nomatch z
      unfold forD at k3
      split at k3
      · exact k3.elim
      · rename_i ρ4 e4
        refine ⟨B2, F2, ρ3, F3, B3, ds[i], ρ4, rel3, hd, e4, fun σ4 rel4 _ => ⟨B2, F2, ρ4, F3, B3, rel4, ?_⟩⟩
        cases z : f ρ4 with
        | next ρ5 => rw [z] at k3; exact fun σ F B H r => ⟨ρ5, F, B, r, k3⟩
        | cnt ρ5 => rw [z] at k3; exact fun σ F B H r => ⟨ρ5, F, B, r, k3⟩
        | brk ρ5 => rw [z] at k3; exact fun σ F B H r => k3 σ F B H (r.un x0 y0 o0)
        | ret d =>
          rw [z] at k3
          exact fun v F B H p b hd n => k3 v F B H p ⟨x0.trans b.f0, b.fb, b.bh, y0.trans b.h0, fun a n => (b.of0 a (Same.there y0 n)).trans (o0 a n)⟩ hd n
        | err c fs ρ5 => rw [z] at k3; exact fun cv x σ F B H r ea => k3 cv x σ F B H (r.un x0 y0 o0) ea
        | stuck => rw [z] at k3; exact k3
    · have e : ds.drop i = [] := List.drop_eq_nil_of_le (by omega)
      rw [e] at k3
      exact .inl ⟨j2 (by omega), k3 σ3 F3 B3 H3 (rel3.un x0 y0 o0)⟩
end
end DH
namespace DH
open PySem L2

abbrev W0 : WX := fun _ _ _ _ => False
/-- an error within a comprehension is not told -/
def noErr {α : Type} : Res α → Res α
  | .ok a => .ok a
  | _ => .stuck
def compD (g : GG) (c : Rho → Res Bool) (f : Rho → Res D) (ρ : Rho) : List D → Res (List D)
  | [] => .ok []
  | d :: ds => match g d ρ with
    | none => .stuck
    | some ρ1 => (noErr (c ρ1)).bind fun b => if b then (noErr (f ρ1)).bind fun y => (compD g c f ρ ds).bind fun ys => .ok (y :: ys) else compD g c f ρ ds
def wipeR (ρ : Rho) : List Nat → Rho
  | [] => ρ
  | v :: vs => (wipeR ρ vs).set v none
def eComp (vs : List Nat) (src : Rho → Res (List D)) (g : GG) (c : Rho → Res Bool) (f : Rho → Res D) : Rho → Res D := fun ρ =>
  (src ρ).bind fun ds => (compD g c f (wipeR ρ vs) ds).bind fun ys => if ys.length ≤ LINE ∧ D.retAll ys = true then .ok (.lst .own ys) else .stuck
def bYes : Rho → Res Bool := fun _ => .ok true
theorem noErr_ok {α : Type} {r : Res α} {a : α} (h : noErr r = .ok a) : r = .ok a := by
  cases r <;> cases h
  rfl
theorem noErr_ne {α : Type} {r : Res α} {c : Str} {fs : List (Str × V)} : noErr r ≠ .err c fs := by
  intro h
  cases r <;> cases h
theorem bind_ne {α β : Type} {r : Res α} {g : α → Res β} {c : Str} {fs : List (Str × V)} (h : ∀ c fs, r ≠ .err c fs) (k : ∀ a c fs, r = .ok a → g a ≠ .err c fs) : r.bind g ≠ .err c fs := by
  cases z : r with
  | ok a => exact k a c fs z
  | err c' fs' => exact absurd z (h c' fs')
  | stuck => exact fun q => nomatch q
theorem compD_ne {g : GG} {c : Rho → Res Bool} {f : Rho → Res D} {ρ : Rho} : ∀ (ds : List D) (k : Str) (fs : List (Str × V)), compD g c f ρ ds ≠ .err k fs
  | [], _, _ => fun z => nomatch z
  | d :: ds, k, fs => by
    unfold compD
    cases g d ρ with
    | none => exact fun z => nomatch z
    | some ρ1 =>
      refine bind_ne (fun _ _ => noErr_ne) fun b _ _ _ => ?_
      cases b with
      | true => exact bind_ne (fun _ _ => noErr_ne) fun y _ _ _ => bind_ne (fun c fs => compD_ne ds c fs) fun _ _ _ _ z => nomatch z
      | false => exact compD_ne ds _ _
theorem compD_cons {g : GG} {c : Rho → Res Bool} {f : Rho → Res D} {ρ : Rho} {d : D} {ds ys : List D} (h : compD g c f ρ (d :: ds) = .ok ys) : ∃ ρ1 b, g d ρ = some ρ1 ∧ c ρ1 = .ok b ∧
    ((b = true ∧ ∃ y zs, f ρ1 = .ok y ∧ compD g c f ρ ds = .ok zs ∧ ys = y :: zs) ∨ (b = false ∧ compD g c f ρ ds = .ok ys)) := by
  unfold compD at h
  cases z : g d ρ with
  | none => rw [z] at h; cases h
  | some ρ1 =>
    rw [z] at h
    cases zc : noErr (c ρ1) with
    | ok b =>
      simp only [zc, Res.bind] at h
      refine ⟨ρ1, b, rfl, noErr_ok zc, ?_⟩
      cases b with
      | true =>
        simp only [if_true] at h
        cases zf : noErr (f ρ1) with
        | ok y =>
          simp only [zf, Res.bind] at h
          cases zr : compD g c f ρ ds with
          | ok zs =>
            simp only [zr] at h
            cases h
            exact .inl ⟨rfl, y, zs, noErr_ok zf, rfl, rfl⟩
          | err _ _ => simp only [zr] at h; cases h
          | stuck => simp only [zr] at h; cases h
        | err _ _ => simp only [zf, Res.bind] at h; cases h
        | stuck => simp only [zf, Res.bind] at h; cases h
      | false => exact .inr ⟨rfl, by simpa using h⟩
    | err _ _ => simp only [zc, Res.bind] at h; cases h
    | stuck => simp only [zc, Res.bind] at h; cases h

section
variable {G : Gam} {W : WX} {X : L2.Cx} {F B H : Hp} {σ : L2.St} {ρ : Rho} {D' : Ends} {e elt a tg iter : Expr} {fe fa : Rho → Res D} {pos pos' p : Pos} {α : Type}
theorem Slots.wipe {p : List Addr} (s : Slots G.T F B H σ ρ p) (n : p.Nodup) : ∀ vs : List Nat, ∃ q, Slots G.T F B H (L2.wipe σ vs) (wipeR ρ vs) q ∧ q.Nodup ∧ ∀ a ∈ q, a ∈ p
  | [] => ⟨p, s, n, fun _ z => z⟩
  | v :: vs => by
    obtain ⟨q, s1, n1, k1⟩ := Slots.wipe s n vs
    obtain ⟨q2, s2, n2, k2⟩ := s1.forget v none n1
    exact ⟨q2, s2, n2, fun a z => k1 a (k2 a z)⟩
theorem Pinned.wipe (h : Pinned G σ) : ∀ {vs : List Nat}, (∀ v ∈ vs, PinOk G v) → Pinned G (L2.wipe σ vs)
  | [], _ => h
  | v :: vs, p => (Pinned.wipe h fun w z => p w (List.mem_cons_of_mem _ z)).set (p v List.mem_cons_self)
theorem RelS.wipe (rel : RelS G ρ F B σ H) (vs : List Nat) (hp : ∀ v ∈ vs, PinOk G v) : RelS G (wipeR ρ vs) F B (L2.wipe σ vs) H := by
  obtain ⟨fp, s, n⟩ := rel.slots
  obtain ⟨q, s1, n1, _⟩ := s.wipe n vs
  exact ⟨rel.base, ⟨q, s1, n1⟩, rel.pin.wipe hp⟩
theorem wipe_in : ∀ {vs : List Nat} {i : Nat} {σ : L2.St}, i ∈ vs → i < σ.length → (L2.wipe σ vs)[i]? = some none
  | v :: vs, i, σ, hi, hl => by
    unfold L2.wipe
    by_cases e : v = i
    · subst e
      exact List.getElem?_set_self (by rw [wipe_length]; exact hl)
    · rw [List.getElem?_set_ne e]
      exact wipe_in ((List.mem_cons.mp hi).resolve_left fun z => e z.symm) hl
theorem Agree.wipe {vs : List Nat} {σ σ2 : L2.St} (a : Agree vs (L2.wipe σ vs) σ2) : L2.wipe σ2 vs = L2.wipe σ vs := by
  have hl : σ2.length = σ.length := a.len.trans (wipe_length σ vs)
  refine List.ext_getElem? fun i => ?_
  by_cases hi : i ∈ vs
  · by_cases h : i < σ.length
    · rw [wipe_in hi h, wipe_in hi (by omega)]
    · rw [List.getElem?_eq_none (by rw [wipe_length]; omega), List.getElem?_eq_none (by rw [wipe_length]; omega)]
  · rw [wipe_out hi, a.at_ i hi, wipe_out hi]
theorem Ext.updNew {F' B' H' : Hp} {a : Addr} {o : HO} (x : Ext F B H F' B' H') (n : H a = none) (nb : B' a = none) : Ext F B H F' B' (upd H' a o) :=
  ⟨x.f, x.b, fun c y e => by rw [upd_ne (ne_of_none e n)]; exact x.h c y e, x.fb, fun c y e => by rw [upd_ne (ne_of_none e nb)]; exact x.bh c y e, x.of, x.ob⟩
/-- .. within a comprehension, where nothing that stood is changed -/
def ItSc (T : Tx) (J : It) (F B H1 : Hp) (ds : List D) : Prop :=
  ∀ i Hc, Same B Hc → Same H1 Hc → (i < ds.length → J.go i Hc) ∧ (ds.length ≤ i → J.stop i Hc) ∧ ∀ x H', J.yld i Hc x H' → H' = Hc ∧ ∀ d, ds[i]? = some d → Dat T F B Hc x d []
def tIc (G : Gam) (W : WX) (f : Rho → Res (List D)) : TI := fun σ H R => ∃ ρ F B, RelS G ρ F B σ H ∧ kE G.T W σ F B H (f ρ) fun ds F' B' H' => ∀ J F2 B2, Ext F B H F2 B2 H' → ItSc G.T J F2 B2 H' ds → R J H'
abbrev ITc (G : Gam) (X : L2.Cx) (W : WX) (tg iter : Expr) (f : Rho → Res (List D)) : Prop := PI X tg iter (tIc G W f)
theorem it_c {f : Rho → Res (List D)} (h : IT G X W tg iter f) : ITc G X W tg iter f := pi_pre h fun σ H R ⟨ρ, F, B, rel, k⟩ => ⟨ρ, F, B, rel, k.mono fun ds F1 B1 H1 x1 k1 J F2 B2 x2 hJ => k1 J F2 B2 x2 fun i Hc sb _ => hJ i Hc sb⟩
/-- the items of what is read -/
def anyItemsD : D → Res (List D)
  | .lst .own xs => if D.dupAll xs then .ok xs else .stuck
  | .lst .frz xs => .ok xs
  | .lst .bor xs => .ok xs
  | .tup xs => if D.dupAll xs then .ok xs else .stuck
  | _ => .stuck
def iAny (f : Rho → Res D) : Rho → Res (List D) := fun ρ => (f ρ).bind anyItemsD
theorem its_own {T : Tx} {a : Addr} {vs : List V} {ds : List D} (e : H a = some (.lst vs)) (h : Dats T F B H vs ds []) : ItSc T (Itl T.K a) F B H ds := fun i Hc _ s => by
  have sq : SqL T.K Hc a vs := SqL.of (s _ _ e)
  have hl := h.length
  refine ⟨fun hi => ?_, fun hi => ⟨vs, sq, by omega⟩, fun x H' ⟨e1, k⟩ => ⟨e1, fun d hd => ?_⟩⟩
  · have hi' : i < vs.length := by omega
    exact ⟨vs, vs[i], sq, List.getElem?_eq_getElem hi'⟩
  · obtain ⟨v, q, e2, h2, m⟩ := h.get hd
    have e3 := k vs sq
    rw [e2] at e3
    cases e3
    have q0 : q = [] := by
      cases q with
      | nil => rfl
      | cons b q => exact absurd (m b List.mem_cons_self) (by simp)
    subst q0
    exact h2.stay (.refl _) (.refl _) fun _ z => nomatch z
theorem it_any (hK : X.K = G.K) (h : EB G X W e fe) : ITc G X W tg e (iAny fe) :=
  pi_pre (pi_seq h) fun σ H R ⟨ρ, F, B, rel, k⟩ => ⟨ρ, F, B, rel, (kE.bind k).mono fun d F1 B1 H1 x1 k1 v p hd => by
    have b1 := rel.base.ext x1
    rw [hK]
    cases d with
    | lst l xs =>
      obtain ⟨a, vs, q, rfl, ea, ds, _, g2, _⟩ := hd.lst b1
      cases l with
      | frz =>
        obtain ⟨rfl, rfl, eb⟩ := g2 rfl
        exact ⟨a, rfl, .inl ⟨⟨vs, SqL.of ea⟩, kE.ok x1.fb x1.bh k1 _ F1 B1 x1 (its_own ea ds)⟩⟩
      | bor =>
        obtain ⟨rfl, rfl, eb⟩ := g2 rfl
        exact ⟨a, rfl, .inl ⟨⟨vs, SqL.of ea⟩, kE.ok x1.fb x1.bh k1 _ F1 B1 x1 (its_own ea ds)⟩⟩
      | own =>
        have k1 : kE G.T W σ F1 B1 H1 (if D.dupAll xs then .ok xs else .stuck) _ := k1
        by_cases c : D.dupAll xs = true
        · rw [if_pos c] at k1
          obtain rfl := ds.fp_dup c
          exact ⟨a, rfl, .inl ⟨⟨vs, SqL.of ea⟩, kE.ok x1.fb x1.bh k1 _ F1 B1 x1 (its_own ea ds)⟩⟩
        · rw [if_neg c] at k1; exact k1.elim
      | tmp => exact k1.elim
    | tup xs =>
      have k1 : kE G.T W σ F1 B1 H1 (if D.dupAll xs then .ok xs else .stuck) _ := k1
      by_cases c : D.dupAll xs = true
      · rw [if_pos c] at k1
        cases hd with
        | tup ea ds =>
          obtain rfl := ds.fp_dup c
          exact ⟨_, rfl, .inr ⟨⟨_, seqT_same (b1.fb.trans b1.bh) ea⟩, kE.ok x1.fb x1.bh k1 _ F1 B1 x1 fun i Hc sb _ => its_tup x1.fb ea ds i Hc sb⟩⟩
      · rw [if_neg c] at k1; exact k1.elim
    | non => exact k1.elim
    | bl _ => exact k1.elim
    | int _ => exact k1.elim
    | str _ => exact k1.elim
    | ins _ _ => exact k1.elim
    | obj _ _ => exact k1.elim
    | scr _ => exact k1.elim⟩
abbrev ECs (G : Gam) (X : L2.Cx) (W : WX) (cs : List Expr) (f : Rho → Res Bool) : Prop := PTs X cs (tT G W f)
theorem pts_pre {X : L2.Cx} {cs : List Expr} {t t' : TT} (h : PTs X cs t) (k : ∀ σ H Q, t' σ H Q → t σ H Q) : PTs X cs t' := ⟨fun pins s σ H Q I q => h.run pins s σ H Q I (k σ H Q q)⟩
theorem ec_nil : ECs G X W [] bYes := pts_pre pts_nil fun σ H Q ⟨ρ, F, B, rel, k⟩ => kE.ok (G := G) (W := W) (σ := σ) rel.base.fb rel.base.bh k
theorem ec_one {c : Expr} {f : Rho → Res Bool} (h : ET G X W c f) : ECs G X W [c] f := pts_one h
theorem comp_run {vs : List Nat} {src : Rho → Res (List D)} {g : GG} {c : Rho → Res Bool} {f : Rho → Res D} {Q : VK} (hp : ∀ v ∈ vs, PinOk G v) (rel : RelS G ρ F B σ H)
    (k : kE G.T W σ F B H (eComp vs src g c f ρ) fun d F' B' H' => ∀ v p, Dat G.T F' B' H' v d p → p.Nodup → (∀ a ∈ p, H a = none) → Q v H') : tLc (tIc G W src) (tG G vs g) (tT G W0 c) (tV G W0 f) vs σ H Q := by
  refine ⟨ρ, F, B, rel, ?_⟩
  unfold eComp at k
  cases zs : src ρ with
  | err _ _ => rw [zs] at k; exact k
  | stuck => rw [zs] at k; exact k
  | ok ds =>
  rw [zs] at k
  have k1 : kE G.T W σ F B H ((compD g c f (wipeR ρ vs) ds).bind fun ys => if ys.length ≤ LINE ∧ D.retAll ys = true then (Res.ok (D.lst .own ys) : Res D) else .stuck) _ := k
  intro F1 B1 H1 x1 J F2 B2 x2 hJ D nD
  cases zc : compD g c f (wipeR ρ vs) ds with
  | err _ _ => exact absurd zc (compD_ne ds _ _)
  | stuck => rw [zc] at k1; exact k1.elim
  | ok ys =>
    rw [zc] at k1
    obtain ⟨⟨c1, c2⟩, k1⟩ := kE.ite k1
    have b2 := rel.base.ext x2
    have nB2 : B2 D = none := b2.bh.free nD
    have n0 : H D = none := x2.h.free nD
    have relw := rel.wipe vs hp
    refine ⟨fun i m H3 => m = ds.length - i ∧ i ≤ ds.length ∧ ∃ F3 B3 acc accD q rest, Ext F B H F3 B3 H3 ∧ Same F2 F3 ∧ Same B2 B3 ∧ H3 D = some (.lst acc) ∧ B3 D = none ∧ Dats G.T F3 B3 H3 acc accD q ∧ (D :: q).Nodup ∧ (∀ a ∈ q, H1 a = none) ∧ Same H1 H3 ∧
      compD g c f (wipeR ρ vs) (ds.drop i) = .ok rest ∧ accD ++ rest = ys, ⟨ds.length, by simp, Nat.zero_le _, F2, B2, [], [], [], ys, x2.updNew n0 nB2, .refl _, .refl _, upd_same, nB2, .nil, nd1 D, fun _ z => (nomatch z), same_upd nD, by rw [List.drop_zero]; exact zc, rfl⟩, ?_⟩
    rintro i m H3 ⟨rfl, hi, F3, B3, acc, accD, q, rest, x3, sf, sb, eD, nB3, hacc, nq, newq, s13, hrest, happ⟩
    obtain ⟨j1, j2, j3⟩ := hJ i H3 (sb.trans x3.bh) s13
    by_cases hlt : i < ds.length
    · have ed : ds.drop i = ds[i] :: ds.drop (i + 1) := List.drop_eq_getElem_cons hlt
      rw [ed] at hrest
      obtain ⟨ρ1, b, g1, g2, g3⟩ := compD_cons hrest
      refine .inr ⟨j1 hlt, fun H4 => ∃ F3 B3 acc accD q rest, Ext F B H F3 B3 H4 ∧ Same F2 F3 ∧ Same B2 B3 ∧ H4 D = some (.lst acc) ∧ B3 D = none ∧ Dats G.T F3 B3 H4 acc accD q ∧ (D :: q).Nodup ∧ (∀ a ∈ q, H1 a = none) ∧ Same H1 H4 ∧
        compD g c f (wipeR ρ vs) (ds.drop (i + 1)) = .ok rest ∧ accD ++ rest = ys, fun H4 w => ⟨ds.length - (i + 1), by omega, rfl, hlt, w⟩, fun x H4 y => ?_⟩
      obtain ⟨rfl, hd⟩ := j3 x H4 y
      have hd : Dat G.T F3 B3 H4 x ds[i] [] := (hd _ (List.getElem?_eq_getElem hlt)).stay sf sb fun _ z => nomatch z
      refine ⟨wipeR ρ vs, F3, B3, ds[i], ρ1, relw.ext x3, hd, g1, fun σ4 rel4 ag => ⟨ag.wipe, ρ1, F3, B3, rel4, ?_⟩⟩
      rw [g2]
      intro F5 B5 H5 x5
      have x35 := x3.trans x5
      rcases g3 with ⟨rfl, y, zs, f1, f2, rfl⟩ | ⟨rfl, f2⟩
      · simp only [if_true]
        refine ⟨ρ1, F5, B5, rel4.ext x5, ?_⟩
        rw [f1]
        intro F6 B6 H6 x6 v p hv np newp
        have x56 := x5.trans x6
        have eD6 : H6 D = some (.lst acc) := x56.h _ _ eD
        have nB6 : B6 D = none := (x56.ob D (by rw [eD]; exact fun z => nomatch z)).trans nB3
        have hacc6 := hacc.ext x56
        have lyy : acc.length ≤ LINE := by
          have e1 := congrArg List.length happ
          rw [List.length_append, List.length_cons] at e1
          rw [hacc.length]; omega
        refine ⟨acc, eD6, by
          have e1 := congrArg List.length happ
          rw [List.length_append, List.length_cons] at e1
          rw [hacc.length, line_eq]; omega, F6, B6, acc ++ [v], accD ++ [y], q ++ p, zs, (x3.trans x56).updNew n0 nB6, sf.trans x56.f, sb.trans x56.b, upd_same, nB6, ?_, ?_, ?_, (fun c o e => by rw [upd_ne (ne_of_none e nD)]; exact (s13.trans x56.h) c o e), f2, by rw [List.append_assoc]; exact happ⟩
        · have w := hacc6.append (Dats.cons hv .nil)
          rw [List.append_nil] at w
          refine w.stay (.refl _) (.refl _) fun a z => ⟨upd_ne fun e => ?_, (w.foot a z).2⟩
          rcases List.mem_append.mp z with z | z
          · exact (List.nodup_cons.mp nq).1 (e ▸ z)
          · have w1 := newp a z
            rw [e, x5.h _ _ eD] at w1
            cases w1
        · refine List.nodup_cons.mpr ⟨fun z => ?_, List.nodup_append.mpr ⟨(List.nodup_cons.mp nq).2, np, fun a z b y e => ?_⟩⟩
          · rcases List.mem_append.mp z with z | z
            · exact (List.nodup_cons.mp nq).1 z
            · have w1 := newp D z
              rw [x5.h _ _ eD] at w1
              cases w1
          · subst e
            have w1 := newp a y
            have w2 := (hacc.foot a z).1
            exact Same.there x5.h w2 w1
        · intro a z
          rcases List.mem_append.mp z with z | z
          · exact newq a z
          · exact (s13.trans x5.h).free (newp a z)
      · simp only [Bool.false_eq_true, if_false]
        exact ⟨F5, B5, acc, accD, q, rest, x35, sf.trans x5.f, sb.trans x5.b, x5.h _ _ eD, (x5.ob D (by rw [eD]; exact fun z => nomatch z)).trans nB3, hacc.ext x5, nq, newq, s13.trans x5.h, f2, happ⟩
    · have er : ds.drop i = [] := List.drop_eq_nil_of_le (by omega)
      rw [er] at hrest
      cases hrest
      rw [List.append_nil] at happ
      subst happ
      refine .inl ⟨j2 (by omega), k1 F3 B3 H3 x3 (.ref D) (D :: q) (.own eD nB3 hacc c2) nq fun a z => ?_⟩
      rcases List.mem_cons.mp z with rfl | z
      · exact n0
      · exact x2.h.free (newq a z)
theorem ev_comp {scope : Scope} (own : List (Str × Nat)) {src : Rho → Res (List D)} {g : GG} {c : Rho → Res Bool} {f : Rho → Res D} {ifs : List Expr} (hp : ∀ v ∈ own.map (·.2), PinOk G v) (hc : X.calm = true) (hN : X.N.Nodup) (hi : ITc G X W tg iter src) (ok : BlkOk X.N X.env.scope scope own)
    (hg : ∀ (s : Shared) (H : Hp) (C : Addr) (cl : List (Str × Addr)) (fp : List Addr), GT G (X.blk s H scope (compEnvC scope cl C X.env) fp) (own.map (·.2)) tg g)
    (ht : ∀ (s : Shared) (H : Hp) (C : Addr) (cl : List (Str × Addr)) (fp : List Addr), ECs G (X.blk s H scope (compEnvC scope cl C X.env) fp) W0 ifs c)
    (he : ∀ (s : Shared) (H : Hp) (C : Addr) (cl : List (Str × Addr)) (fp : List Addr), EV G (X.blk s H scope (compEnvC scope cl C X.env) fp) W0 elt f)
    (hs : ∀ x, foldedSetIterable iter X.env x = pure x := by intro _; rfl) : EV G X W (.ListComp elt [⟨tg, iter, ifs, 0⟩] scope pos) (eComp (own.map (·.2)) src g c f) :=
  pe_pre (pe_lc hc hN hi ok hg ht he hs) fun σ H Q ⟨ρ, F, B, rel, k⟩ => comp_run hp rel k
theorem ss_setComp (i : Nat) {y : Str} {py spos : Pos} {scope : Scope} (own : List (Str × Nat)) {src : Rho → Res (List D)} {g : GG} {c : Rho → Res Bool} {f : Rho → Res D} {ifs : List Expr} (hp : ∀ v ∈ own.map (·.2), PinOk G v) (hpi : PinOk G i) (hc : X.calm = true) (hN : X.N.Nodup)
    (hi : ITc G X W tg iter src) (ok : BlkOk X.N X.env.scope scope own)
    (hg : ∀ (s : Shared) (H : Hp) (C : Addr) (cl : List (Str × Addr)) (fp : List Addr), GT G (X.blk s H scope (compEnvC scope cl C X.env) fp) (own.map (·.2)) tg g)
    (ht : ∀ (s : Shared) (H : Hp) (C : Addr) (cl : List (Str × Addr)) (fp : List Addr), ECs G (X.blk s H scope (compEnvC scope cl C X.env) fp) W0 ifs c)
    (he : ∀ (s : Shared) (H : Hp) (C : Addr) (cl : List (Str × Addr)) (fp : List Addr), EV G (X.blk s H scope (compEnvC scope cl C X.env) fp) W0 elt f)
    (hsw : swapsWith (.ListComp elt [⟨tg, iter, ifs, 0⟩] scope pos) (some (.Name y py)) spos.line X.env = pure true)
    (hy : X.N[i]? = some y := by rfl) (hyl : X.env.scope.names.lookup y = some .local := by rfl) (hs : ∀ x, foldedSetIterable iter X.env x = pure x := by intro _; rfl) :
    SS G X W (.Assign [.Name y py] (.ListComp elt [⟨tg, iter, ifs, 0⟩] scope pos) spos) (sSet i (eComp (own.map (·.2)) src g c f)) :=
  ps_pre (ps_setLc hc hN hy hyl hsw hi ok hg ht he hs) fun D' σ H ⟨ρ, F, B, rel, k⟩ => comp_run hp rel ((kS.bind rel k).mono fun d F1 B1 H1 x1 k1 v p hd nd new => k1 _ F1 B1 H1 (rel.set x1 i hpi hd nd new))
end
end DH
namespace DH
open PySem L2

/-! ### calls whose errors are wished for at the caller's slots -/
section
open PySem.Spec PyProof.Rows
variable {X : L2.Cx} {CX : CXT} {k : Nat} {f C : Addr} {fd : FuncData} {ps : List Str} {sp : Sp} {E : L2.St → XK} {x m : Str} {p pos apos : Pos} {e o : Expr} {es : List Expr} {ta : TE} {t : TA}
def tMethS (C : Addr) (m : Str) (sp : Sp) (E : L2.St → XK) (ta : TE) (t : TA) : TE := fun σ H Q => ta σ H fun x H1 => ∃ a dx fs, x = .ref a ∧ H1 a = some (.ins C dx fs) ∧ fs.lookup m = none ∧
  t σ H1 fun vs H2 => sp (x :: vs) H2 Q (E σ)
theorem pe_methS {pl : Sem Bool} (he : PE X o ta) (c : Cls X.K C) (hm : Meth X.K C m f) (F : FnOk X.prog X.w X.K X.mg X.base CX k f fd ps sp) (hr : Room k X.A) (hb : Binds X.K fd ps []) (hx : ∀ σ, PassesAt CX X σ (E σ)) (ha : PA X (e :: es) t)
    (hst : starEach (e :: es) X.env = (false, eval e X.env) :: starEach es X.env := by rfl) (hpl : (backTo pos (starEach es X.env)).any (·.1) = false := by rfl)
    (ht : eval (.Call (.Attribute o m apos) (e :: es) [] pos) X.env = (do
      let ov ← eval o X.env
      standAt apos.atName
      let (f, first) ← holding [ov] (getMethod ov m pl)
      callWith pos f first (backTo pos (starEach (e :: es) X.env)) (backToKw pos (keywordEach [] X.env))) := by rfl) :
    PE X (.Call (.Attribute o m apos) (e :: es) [] pos) (tMethS C m sp E ta t) := by
  refine ⟨fun pins s σ H Q I h => ?_⟩
  refine PySem.W.methodCall_KW (pl := pl) (thn (he.run pins s σ H _ I h) fun u s1 ⟨x, H1, I1, rx, a, dx, fs, ex, ea, l, q⟩ => ?_) ht
  subst ex
  obtain rfl : u = Value.ref a := rx
  refine getmeth_ok I1 ea c hm l ?_
  refine PySem.W.callWith_K (first := [.ref a]) (h₀ := X.base) I.ok.mod.kin hm.kp (thn (ha.run pos pins s1 σ H1 _ I1 q) fun us s2 ⟨vs, H2, I2, r, q2⟩ => ⟨I2.kIn, ?_⟩) hst hpl
  exact run_fnS (us := .ref a :: us) (vs := .ref a :: vs) F hr hb (hx σ) I2 (.cons rfl r) q2
theorem pe_methS0 {pl : Sem Bool} (he : PE X o ta) (c : Cls X.K C) (hm : Meth X.K C m f) (F : FnOk X.prog X.w X.K X.mg X.base CX k f fd ps sp) (hr : Room k X.A) (hb : Binds X.K fd ps []) (hx : ∀ σ, PassesAt CX X σ (E σ))
    (ht : eval (.Call (.Attribute o m apos) [] [] pos) X.env = (do
      let ov ← eval o X.env
      standAt apos.atName
      let (f, first) ← holding [ov] (getMethod ov m pl)
      callWith pos f first (backTo pos (starEach [] X.env)) (backToKw pos (keywordEach [] X.env))) := by rfl) :
    PE X (.Call (.Attribute o m apos) [] [] pos) (tMethS C m sp E ta tNil) := by
  refine ⟨fun pins s σ H Q I h => ?_⟩
  refine PySem.W.methodCall_KW (pl := pl) (thn (he.run pins s σ H _ I h) fun u s1 ⟨x, H1, I1, rx, a, dx, fs, ex, ea, l, q⟩ => ?_) ht
  subst ex
  obtain rfl : u = Value.ref a := rx
  refine getmeth_ok I1 ea c hm l ?_
  exact PySem.W.callWith_K0 (first := [.ref a]) I1.kIn hm.kp (run_fnS (us := [.ref a]) (vs := [.ref a]) F hr hb (hx σ) I1 (.cons rfl .nil) q)
def tMakeS (C : Addr) (sp : Sp) (E : L2.St → XK) (t : TA) : TE := fun σ H Q => t σ H fun vs H1 => ∀ x dx, H1 x = none → H1 dx = none → dx ≠ x →
  sp (.ref x :: vs) (upd (upd H1 dx (.own x)) x (.ins C dx [])) (fun v H2 => v = .non ∧ Q (.ref x) H2) (E σ)
theorem run_makeS {pins : List (Addr × Obj)} {σ : L2.St} {H : Hp} {s : Shared} {Q : VK} {us : List Value} {vs : List V} (M : Mk X.K C f) (F : FnOk X.prog X.w X.K X.mg X.base CX k f fd ps sp) (hr : Room (k + 1) X.A) (hb : Binds X.K fd ps [])
    (hx : PassesAt CX X σ (E σ)) (I : Inv X pins σ H s) (r : Vals vs us)
    (h : ∀ x dx, H x = none → H dx = none → dx ≠ x → sp (.ref x :: vs) (upd (upd H dx (.own x)) x (.ins C dx [])) (fun v H2 => v = .non ∧ Q (.ref x) H2) (E σ)) :
    wpAny (model X.prog X.w) X.A (call (.ref C) us) (EP X pins σ Q) X.xe s := by
  have hq := h (s.heap.objs.size + 1) s.heap.objs.size (I.hok.fresh (Nat.le_succ _)) (I.hok.fresh (Nat.le_refl _)) (Nat.ne_of_lt (Nat.lt_succ_self _))
  have I2 := Inv.made (C := C) I
  have r2 : Vals (V.ref (s.heap.objs.size + 1) :: vs) (Value.ref (s.heap.objs.size + 1) :: us) := .cons rfl r
  have hl : (Value.ref (s.heap.objs.size + 1) :: us).length = ps.length := by
    have e := r2.length
    rw [F.len _ _ _ _ hq] at e
    exact e.symm
  have b := hb _ (Value.ref (s.heap.objs.size + 1) :: us) I2.kIn (by rw [List.append_nil]; exact hl)
  rw [List.append_nil] at b
  refine wpAny_call (make_map (f := f) I.kIn M.makes M.init (beq_iff_eq.mp M.fn) (codeAny_mono (F.run _ X.stack _ _ ⟨Value.ref (s.heap.objs.size + 1) :: us, []⟩ (Value.ref (s.heap.objs.size + 1) :: us) _ _ (E σ) (hr.make C us [])
    (I2.env0.make C us []) b r2 hq) fun r s' hq' => ?_))
  cases r with
  | error e => exact hx pins _ _ e s' I2 hq'
  | ok fl =>
    cases fl with
    | ret u =>
      obtain ⟨v, H', I3, rv, ev, q3⟩ := I2.after hq'
      subst ev
      exact ⟨rv, ⟨V.ref (s.heap.objs.size + 1), H', I3, rfl, q3⟩⟩
    | next => exact False.elim hq'
    | brk => exact False.elim hq'
    | cont => exact False.elim hq'
theorem pe_makeS (M : Mk X.K C f) (F : FnOk X.prog X.w X.K X.mg X.base CX k f fd ps sp) (hr : Room (k + 1) X.A) (hg : Gl X x) (hm : X.mg x = some (.ref C)) (hb : Binds X.K fd ps []) (hx : ∀ σ, PassesAt CX X σ (E σ))
    (ha : PA X (e :: es) t) (hdb : (x == ("__debug__" : Str)) = false := by decide) (he : starEach (e :: es) X.env = (false, eval e X.env) :: starEach es X.env := by rfl) (hpl : (backTo pos (starEach es X.env)).any (·.1) = false := by rfl) :
    PE X (.Call (.Name x p) (e :: es) [] pos) (tMakeS C sp E t) := by
  refine ⟨fun pins s σ H Q I h => ?_⟩
  refine wpAny_Call_Name_kw (ld_glob I hg hm ?_ hdb)
  refine PySem.W.callWith_K (h₀ := X.base) I.ok.mod.kin M.kp (thn (ha.run pos pins s σ H _ I h) fun us s1 ⟨vs, H1, I1, r, q⟩ => ⟨I1.kIn, ?_⟩) he hpl
  exact run_makeS M F hr hb (hx σ) I1 r q
end

/-! ### what a def promises over data -/
def spF (T : Tx) (n : Nat) (m : List D → Res D) : Sp := fun vs H Q E => ∃ F ds, Same F H ∧ Dats T F H H vs ds [] ∧ ds.length = n ∧ match m ds with
  | .ok r => ∀ v F' H' p, Same F F' → Same F' H' → Same H H' → (∀ a, H a ≠ none → F' a = F a) → Dat T F' F' H' v r p → p.Nodup → (∀ a ∈ p, H a = none) → Q v H'
  | .err c fs => ∀ cv x H', Same H H' → ExcAt T c fs cv x H' → E cv x H'
  | .stuck => False
/-- a def's mirror -/
def runF (f : Rho → Out) (n : Nat) (ds : List D) : Res D := match f (ds.map some ++ List.replicate n none) with
  | .next _ => .ok .non
  | .ret d => if d.ret then .ok d else .stuck
  | .err c fs _ => .err c fs
  | _ => .stuck
theorem slots_nones {T : Tx} {F B H : Hp} : ∀ (n : Nat), Slots T F B H (List.replicate n none) (List.replicate n none) []
  | 0 => .nil
  | n + 1 => .un (slots_nones n)
theorem slots_args {T : Tx} {F B H : Hp} {n : Nat} : ∀ {vs : List V} {ds : List D}, Dats T F B H vs ds [] → Slots T F B H (vs.map some ++ List.replicate n none) (ds.map some ++ List.replicate n none) []
  | _, [], h => by
    obtain ⟨rfl, _⟩ := h.unnil
    exact slots_nones n
  | _, d :: ds, h => by
    obtain ⟨v, ws, rfl, h1, h2⟩ := h.uncons0
    exact Slots.val (p := []) (q := []) h1 (slots_args h2)
/-- the context of a def's body -/
abbrev gamF (T : Tx) (H F : Hp) : Gam := ⟨T, H, F, []⟩
section
open PySem.Spec PyProof.Rows
variable {P : Program} {w : World} {K : PySem.W.Frag} {mg : Str → Option Value} {base : Heap}
theorem fn_mk {x qual : Str} {st : Stmt} {fa : Addr} {fd : FuncData} {N ps : List Str} {k : Nat} {f : Rho → Out} (F : Fun K x qual st fa fd) (S : FnScope N ps (defScope st))
    (hbody : ∀ (cdv : Value) (A : Around) (outer : List Env) (s : Shared) (H H0 F0 : Hp) (E : XK), Room k (A.deeper (envOfC qual (defScope st) s.heap.objs.size fa cdv)) →
      Takes (cxOf (L2.CX P w) P w K mg base N qual (defScope st) fa cdv A outer s H E) (fun cls d _ H => E cls d H) →
      SB ⟨⟨K, mg⟩, H0, F0, []⟩ (cxOf (L2.CX P w) P w K mg base N qual (defScope st) fa cdv A outer s H E) (fun cls d _ H => E cls d H) (defBody st) f) :
    FnOk P w K mg base (L2.CX P w) (k + 1) fa fd ps (spF ⟨K, mg⟩ ps.length (runF f (N.length - ps.length))) := by
  refine F.okX S (fun vs H Q E h => ?_) (fun cdv A outer s H vs Q E hr h => ?_)
  · obtain ⟨F, ds, _, hd, hl, _⟩ := h
    rw [hd.length, hl]
  · obtain ⟨F, ds, sf, hd, hl, k⟩ := h
    refine ⟨_, hbody cdv A outer s H H F E hr (takes_of rfl rfl rfl rfl), ?_⟩
    have hl' : vs.length = ps.length := by rw [hd.length, hl]
    refine ⟨ds.map some ++ List.replicate (N.length - ps.length) none, F, H, ⟨⟨.refl _, sf, .refl _, .refl _, fun _ _ => rfl⟩, ⟨[], ?_, List.nodup_nil⟩, trivial⟩, ?_⟩
    · unfold L2.start
      rw [hl']
      exact slots_args hd
    · unfold runF at k
      cases z : f (ds.map some ++ List.replicate (N.length - ps.length) none) with
      | next ρ' =>
        rw [z] at k
        exact fun σ F' B' H' r => k .non F' H' [] r.base.f0 (r.base.fb.trans r.base.bh) (r.base.h0.trans r.base.bh) r.base.of0 .non List.nodup_nil fun _ z => nomatch z
      | ret d =>
        rw [z] at k
        intro v F' B' H' p b hdv nd
        have k : match (if d.ret then Res.ok d else .stuck) with
          | .ok r => ∀ v F' H' p, Same F F' → Same F' H' → Same H H' → (∀ a, H a ≠ none → F' a = F a) → Dat ⟨K, mg⟩ F' F' H' v r p → p.Nodup → (∀ a ∈ p, H a = none) → Q v H'
          | .err c fs => ∀ cv x H', Same H H' → ExcAt ⟨K, mg⟩ c fs cv x H' → E cv x H'
          | .stuck => False := k
        by_cases c : d.ret = true
        · rw [if_pos c] at k
          exact k v F' H' p b.f0 (b.fb.trans b.bh) (b.h0.trans b.bh) b.of0 (hdv.back b.fb c) nd fun a z => b.h0.free (hdv.foot a z).2
        · rw [if_neg c] at k; exact k.elim
      | brk ρ' => rw [z] at k; exact k.elim
      | cnt ρ' => rw [z] at k; exact k.elim
      | err c fs ρ' =>
        rw [z] at k
        exact fun cv x σ F' B' H' r ea => k cv x H' (r.base.h0.trans r.base.bh) ea
      | stuck => rw [z] at k; exact k.elim
end

/-- a def that stands under its name -/
structure FnE (P : Program) (w : World) (K : PySem.W.Frag) (mg : Str → Option Value) (base : Heap) (x : Str) (n k : Nat) (m : List D → Res D) : Prop where
  ex : ∃ f fd ps, FnOk P w K mg base (L2.CX P w) k f fd ps (spF ⟨K, mg⟩ n m) ∧ mg x = some (.ref f) ∧ PySem.W.keepIn K (.ref f) = true ∧ Binds K fd ps []
def callD (n : Nat) (m : List D → Res D) (ds : List D) : Res D := if ds.length = n ∧ D.lenAll ds = true then m (D.lendAll ds) else .stuck
def eCall (n : Nat) (m : List D → Res D) (fs : Rho → Res (List D)) : Rho → Res D := fun ρ => (fs ρ).bind (callD n m)
def joinH (B F : Hp) : Hp := fun a => match B a with
  | some o => some o
  | none => F a
section
variable {G : Gam} {W : WX} {X : L2.Cx} {F B H F' B' H' : Hp} {σ : L2.St} {ρ : Rho} {e : Expr} {es : List Expr} {fs : Rho → Res (List D)} {pos p : Pos} {x : Str} {m : List D → Res D} {k n : Nat}
/-- behind a call: what is new and frozen joins -/
theorem Ext.called (fb : Same F B) (bh : Same B H) (h1 : Same F F') (h2 : Same F' H') (h3 : Same H H') (h4 : ∀ a, H a ≠ none → F' a = F a) : Ext F B H F' (joinH B F') H' := by
  refine ⟨h1, fun a o e => ?_, h3, fun a o e => ?_, fun a o e => ?_, h4, fun a n => ?_⟩
  · unfold joinH; rw [e]
  · unfold joinH
    cases z : B a with
    | none => exact e
    | some o' =>
      have n : H a ≠ none := by rw [bh a o' z]; exact fun q => nomatch q
      have e2 := h4 a n
      rw [e] at e2
      have e3 := fb a o e2.symm
      rw [z] at e3
      exact e3
  · unfold joinH at e
    cases z : B a with
    | none => rw [z] at e; exact h2 a o e
    | some o' => rw [z] at e; cases e; exact h3 a _ (bh a _ z)
  · unfold joinH
    cases z : B a with
    | none =>
      show F' a = none
      rw [h4 a n]
      exact fb.free z
    | some o' => rfl
theorem Dat.called {v : V} {d : D} {p : List Addr} (bh : Same B H) (h : Dat G.T F' F' H' v d p) (new : ∀ a ∈ p, H a = none) (x : Ext F B H F' (joinH B F') H') : Dat G.T F' (joinH B F') H' v d p :=
  h.stay (.refl _) x.fb fun a z => ⟨rfl, by
    unfold joinH
    rw [bh.free (new a z)]
    exact (h.foot a z).2⟩
theorem lendAll_length : ∀ ds : List D, (D.lendAll ds).length = ds.length
  | [] => rfl
  | d :: ds => congrArg (· + 1) (lendAll_length ds)
theorem call_run {ds : List D} {vs : List V} {p : List Addr} {Q : VK} (b : Base G F B H) (hs : Dats G.T F B H vs ds p)
    (h : kE G.T W σ F B H (callD n m ds) fun d F' B' H' => ∀ v p, Dat G.T F' B' H' v d p → p.Nodup → (∀ a ∈ p, H a = none) → Q v H') : spF G.T n m vs H Q (WE W σ) := by
  obtain ⟨⟨hl, c⟩, h⟩ := kE.ite h
  refine ⟨F, D.lendAll ds, b.fb.trans b.bh, hs.lent (.refl _) b.bh c fun _ _ => rfl, (by rw [lendAll_length]; exact hl), ?_⟩
  cases z : m (D.lendAll ds) with
  | ok r =>
    rw [z] at h
    intro v F' H' q h1 h2 h3 h4 hd nd new
    have x := Ext.called b.fb b.bh h1 h2 h3 h4
    exact h F' _ H' x v q (hd.called b.bh new x) nd new
  | err c fs =>
    rw [z] at h
    exact fun cv x H' s ea => h cv x F B H' ⟨.refl _, .refl _, s, b.fb, b.bh.trans s, fun _ _ => rfl, fun _ _ => rfl⟩ ea
  | stuck => rw [z] at h; exact h
theorem ev_call (hF : FnE X.prog X.w X.K X.mg X.base x n k m) (hT : G.T = ⟨X.K, X.mg⟩) (hr : Room k X.A) (tk : Takes X W) (ha : EA G X W (e :: es) fs) (hg : Gl X x := by rfl)
    (hdb : (x == ("__debug__" : Str)) = false := by decide) (he : starEach (e :: es) X.env = (false, eval e X.env) :: starEach es X.env := by rfl) (hpl : (backTo pos (starEach es X.env)).any (·.1) = false := by rfl) :
    EV G X W (.Call (.Name x p) (e :: es) [] pos) (eCall n m fs) := by
  obtain ⟨f, fd, ps, F0, hmg, hk, hb⟩ := hF.ex
  refine pe_pre (pe_callSD F0 hr hg hmg hk hb .nil (passAt tk) ha hdb he hpl) fun σ H Q ⟨ρ, F, B, rel, k⟩ => ⟨ρ, F, B, rel, (kE.bind k).mono fun ds F1 B1 H1 x1 k1 vs q hd => ?_⟩
  show spF ⟨X.K, X.mg⟩ n m (vs ++ []) H1 Q (WE W σ)
  rw [List.append_nil, ← hT]
  exact call_run (rel.base.ext x1) hd (kE.mono k1 fun d F2 B2 H2 x2 k2 v p hd nd new => k2 v p hd nd fun a m => x1.h.free (new a m))
end

/-! ### methods of frozen instances -/
/-- a method that stands in the class named c -/
structure MeE (P : Program) (w : World) (K : PySem.W.Frag) (mg : Str → Option Value) (base : Heap) (c mn : Str) (n k : Nat) (m : List D → Res D) : Prop where
  ex : ∃ C f fd ps, mg c = some (.ref C) ∧ Meth K C mn f ∧ FnOk P w K mg base (L2.CX P w) k f fd ps (spF ⟨K, mg⟩ n m) ∧ Binds K fd ps []
def methK (c mn : Str) (n : Nat) (m : List D → Res D) (fs : Res (List D)) : D → Res D
  | .ins c' fds => if c' = c ∧ (fds.lookup mn).isNone = true then fs.bind fun ds => callD n m (.ins c' fds :: ds) else .stuck
  | _ => .stuck
def eMeth (c mn : Str) (n : Nat) (m : List D → Res D) (fo : Rho → Res D) (fs : Rho → Res (List D)) : Rho → Res D := fun ρ => (fo ρ).bind (methK c mn n m (fs ρ))
section
variable {G : Gam} {W : WX} {X : L2.Cx} {F B H F' B' H' : Hp} {σ : L2.St} {ρ : Rho} {e o : Expr} {es : List Expr} {fo : Rho → Res D} {fs : Rho → Res (List D)} {pos p apos : Pos} {x c mn : Str} {m : List D → Res D} {k n : Nat}
theorem lookup_none {f : Str} : ∀ {fvs : List (Str × V)} {fs : List (Str × D)}, fvs.map (·.1) = fs.map (·.1) → fs.lookup f = none → fvs.lookup f = none
  | [], [], _, _ => rfl
  | [], _ :: _, e, _ => by cases e
  | _ :: _, [], e, _ => by cases e
  | (g, v) :: fvs, (g', d) :: fs, e, l => by
    obtain ⟨e1, e2⟩ := List.cons.inj e
    have e1 : g = g' := e1
    subst e1
    by_cases c : f = g
    · subst c
      simp only [List.lookup, beq_self_eq_true] at l
      cases l
    · have c' : (f == g) = false := by simpa using c
      simp only [List.lookup, c'] at l ⊢
      exact lookup_none e2 l
theorem meth_run {ta : TA} {r : List V → Hp → VK → L2.St → Prop} (h : MeE X.prog X.w X.K X.mg X.base c mn n k m) (hT : G.T = ⟨X.K, X.mg⟩) : True := trivial
theorem ev_meth {pl : Sem Bool} {f C : Addr} {fd : FuncData} {ps : List Str} (hC : X.mg c = some (.ref C)) (hcl : Cls X.K C) (hme : Meth X.K C mn f) (F0 : FnOk X.prog X.w X.K X.mg X.base (L2.CX X.prog X.w) k f fd ps (spF ⟨X.K, X.mg⟩ n m)) (hb : Binds X.K fd ps [])
    (hT : G.T = ⟨X.K, X.mg⟩) (hr : Room k X.A) (tk : Takes X W) (ho : EB G X W o fo) (ha : EA G X W (e :: es) fs)
    (hst : starEach (e :: es) X.env = (false, eval e X.env) :: starEach es X.env := by rfl) (hpl : (backTo pos (starEach es X.env)).any (·.1) = false := by rfl)
    (ht : eval (.Call (.Attribute o mn apos) (e :: es) [] pos) X.env = (do
      let ov ← eval o X.env
      standAt apos.atName
      let (f, first) ← holding [ov] (getMethod ov mn pl)
      callWith pos f first (backTo pos (starEach (e :: es) X.env)) (backToKw pos (keywordEach [] X.env))) := by rfl) :
    EV G X W (.Call (.Attribute o mn apos) (e :: es) [] pos) (eMeth c mn n m fo fs) := by
  refine pe_pre (pe_methS ho hcl hme F0 hr hb (passAt tk) ha hst hpl ht) fun σ H Q ⟨ρ, F, B, rel, k⟩ => ⟨ρ, F, B, rel, (kE.bind k).mono fun d F1 B1 H1 x1 k1 v p hd => ?_⟩
  cases d <;> first | exact k1.elim | skip
  rename_i c' fds
  obtain ⟨⟨ec, el⟩, q1⟩ := kE.ite k1
  clear k1
  subst ec
  have b1 := rel.base.ext x1
  have hd' := hd
  cases hd with
  | ins e m' n' hh cc =>
    have eC : G.T.mg c' = some (.ref C) := by rw [hT]; exact hC
    have g := m'.g
    rw [eC] at g
    cases g
    refine ⟨_, _, _, rfl, b1.bh _ _ (b1.fb _ _ e), lookup_none n' (Option.isNone_iff_eq_none.mp el), ρ, F1, B1, rel.ext x1, (kE.bind q1).mono fun ds F2 B2 H2 x2 k2 vs q hds => ?_⟩
    show spF ⟨X.K, X.mg⟩ n m (_ :: vs) H2 Q (WE W σ)
    rw [← hT]
    exact call_run (b1.ext x2) (.cons (hd'.ext x2) hds) (kE.mono k2 fun d F3 B3 H3 x3 k3 v p hd nd new => k3 v p hd nd fun a m => (x1.trans x2).h.free (new a m))
theorem ev_meth0 {pl : Sem Bool} {f C : Addr} {fd : FuncData} {ps : List Str} (hC : X.mg c = some (.ref C)) (hcl : Cls X.K C) (hme : Meth X.K C mn f) (F0 : FnOk X.prog X.w X.K X.mg X.base (L2.CX X.prog X.w) k f fd ps (spF ⟨X.K, X.mg⟩ n m)) (hb : Binds X.K fd ps [])
    (hT : G.T = ⟨X.K, X.mg⟩) (hr : Room k X.A) (tk : Takes X W) (ho : EB G X W o fo)
    (ht : eval (.Call (.Attribute o mn apos) [] [] pos) X.env = (do
      let ov ← eval o X.env
      standAt apos.atName
      let (f, first) ← holding [ov] (getMethod ov mn pl)
      callWith pos f first (backTo pos (starEach [] X.env)) (backToKw pos (keywordEach [] X.env))) := by rfl) :
    EV G X W (.Call (.Attribute o mn apos) [] [] pos) (eMeth c mn n m fo aNil) := by
  refine pe_pre (pe_methS0 ho hcl hme F0 hr hb (passAt tk) ht) fun σ H Q ⟨ρ, F, B, rel, k⟩ => ⟨ρ, F, B, rel, (kE.bind k).mono fun d F1 B1 H1 x1 k1 v p hd => ?_⟩
  cases d <;> first | exact k1.elim | skip
  rename_i c' fds
  obtain ⟨⟨ec, el⟩, q1⟩ := kE.ite k1
  clear k1
  subst ec
  have b1 := rel.base.ext x1
  have hd' := hd
  cases hd with
  | ins e m' n' hh cc =>
    have eC : G.T.mg c' = some (.ref C) := by rw [hT]; exact hC
    have g := m'.g
    rw [eC] at g
    cases g
    refine ⟨_, _, _, rfl, b1.bh _ _ (b1.fb _ _ e), lookup_none n' (Option.isNone_iff_eq_none.mp el), ?_⟩
    show spF ⟨X.K, X.mg⟩ n m [_] H1 Q (WE W σ)
    rw [← hT]
    exact call_run b1 (.cons hd' .nil) (kE.mono q1 fun d F3 B3 H3 x3 k3 v p hd nd new => k3 v p hd nd fun a m => x1.h.free (new a m))
end

/-! ### an instance that is made -/
def putD (f : Str) (d : D) : List (Str × D) → List (Str × D)
  | [] => [(f, d)]
  | (g, x) :: r => if g = f then (g, d) :: r else (g, x) :: putD f d r
section
variable {T : Tx} {F B H : Hp}
theorem putD_dats {f : Str} {v : V} {d : D} (hd : Dat T F B H v d []) : ∀ {fvs : List (Str × V)} {fs : List (Str × D)}, fvs.map (·.1) = fs.map (·.1) → Dats T F B H (fvs.map (·.2)) (fs.map (·.2)) [] →
    (putF f v fvs).map (·.1) = (putD f d fs).map (·.1) ∧ Dats T F B H ((putF f v fvs).map (·.2)) ((putD f d fs).map (·.2)) []
  | [], [], _, _ => ⟨rfl, .cons0 hd .nil⟩
  | [], _ :: _, e, _ => by cases e
  | _ :: _, [], e, _ => by cases e
  | (g, v') :: fvs, (g', d') :: fs, e, h => by
    obtain ⟨e1, e2⟩ := List.cons.inj e
    have e1 : g = g' := e1
    subst e1
    obtain ⟨w, ws, e3, h1, h2⟩ := Dats.uncons0 (ds := fs.map (·.2)) (d := d') h
    obtain ⟨rfl, rfl⟩ := List.cons.inj e3
    unfold putF putD
    by_cases c : g = f
    · rw [if_pos c, if_pos c]
      exact ⟨congrArg (g :: ·) e2, .cons0 hd h2⟩
    · rw [if_neg c, if_neg c]
      obtain ⟨i1, i2⟩ := putD_dats hd e2 h2
      exact ⟨congrArg (g :: ·) i1, .cons0 h1 i2⟩
theorem putD_pure {f : Str} {d : D} (h1 : d.dup = true) (h2 : d.ret = true) : ∀ {fs : List (Str × D)}, D.pureAll (fs.map (·.2)) = true → D.pureAll ((putD f d fs).map (·.2)) = true
  | [], _ => by
    show (D.dupAll [d] && D.retAll [d]) = true
    show ((d.dup && true) && (d.ret && true)) = true
    rw [h1, h2]; rfl
  | (g, x) :: r, h => by
    obtain ⟨a, b⟩ := Bool.and_eq_true_iff.mp h
    obtain ⟨a1, a2⟩ := Bool.and_eq_true_iff.mp (show (x.dup && D.dupAll (r.map (·.2))) = true from a)
    obtain ⟨b1, b2⟩ := Bool.and_eq_true_iff.mp (show (x.ret && D.retAll (r.map (·.2))) = true from b)
    unfold putD
    by_cases c : g = f
    · rw [if_pos c]
      exact Bool.and_eq_true_iff.mpr ⟨Bool.and_eq_true_iff.mpr ⟨h1, a2⟩, Bool.and_eq_true_iff.mpr ⟨h2, b2⟩⟩
    · rw [if_neg c]
      obtain ⟨p1, p2⟩ := Bool.and_eq_true_iff.mp (putD_pure h1 h2 (f := f) (Bool.and_eq_true_iff.mpr ⟨a2, b2⟩))
      exact Bool.and_eq_true_iff.mpr ⟨Bool.and_eq_true_iff.mpr ⟨a1, p1⟩, Bool.and_eq_true_iff.mpr ⟨b1, p2⟩⟩
theorem putD_keys {f : Str} {d : D} : ∀ {fs : List (Str × D)} {g : Str}, g ∈ (putD f d fs).map (·.1) → g = f ∨ g ∈ fs.map (·.1)
  | [], g, h => .inl (by simpa [putD] using h)
  | (k, x) :: r, g, h => by
    unfold putD at h
    by_cases c : k = f
    · rw [if_pos c] at h
      exact .inr h
    · rw [if_neg c] at h
      rcases List.mem_cons.mp h with h | h
      · exact .inr (by rw [h]; exact List.mem_cons_self)
      · exact (putD_keys h).imp id fun z => List.mem_cons_of_mem _ z
end
def fldK (f : Str) (ρ : Rho) (d : D) : Out := match ρ[(0 : Nat)]? with
  | some (some (D.obj c fs)) => if d.dup = true ∧ d.ret = true ∧ fs.length < 1000 then .next (ρ.set 0 (some (.obj c (putD f d fs)))) else .stuck
  | _ => .stuck
def sFld (c f : Str) (fe : Rho → Res D) : Rho → Out := fun ρ => match ρ[(0 : Nat)]? with
  | some (some (D.obj c' _)) => if c' = c then oBind (fe ρ) ρ (fldK f ρ) else .stuck
  | _ => .stuck
section
variable {G : Gam} {W : WX} {X : L2.Cx} {F B H F' B' H' : Hp} {σ : L2.St} {ρ : Rho} {D' : Ends} {e o : Expr} {fe : Rho → Res D} {pos p apos : Pos} {x c mn : Str} {k n : Nat}
theorem ss_fld {f : Str} {p1 p2 : Pos} (hK : X.K = G.K) (hn : ∀ C, G.mg c = some (.ref C) → NoAttr G.K C f) (he : EV G X W e fe) (hi : X.N[0]? = some x := by rfl) (hv : Vis X.env.scope x := by first | exact Or.inl rfl | exact Or.inr (Or.inl rfl) | exact Or.inr (Or.inr rfl))
    (hd : (x == ("__debug__" : Str)) = false := by decide) (hcd : (x == ("__classdict__" : Str)) = false := by decide) (hs : swapsWith e (some (.Attribute (.Name x p1) f p2)) pos.line X.env = pure false := by rfl) :
    SS G X W (.Assign [.Attribute (.Name x p1) f p2] e pos) (sFld c f fe) :=
  ps_pre (ps_fld (pe_var hi hv hd hcd) he hs) fun D' σ H ⟨ρ, F, B, rel, k⟩ => by
    unfold sFld at k
    split at k
    · rename_i c' fs0 en
      by_cases ec : c' = c
      · rw [if_pos ec] at k
        subst ec
        refine ⟨ρ, F, B, rel, (kS.bind rel k).mono fun d F1 B1 H1 x1 k1 v p hd nd new => ?_⟩
        unfold fldK at k1
        rw [en] at k1
        have k1 : kS G W D' (if d.dup = true ∧ d.ret = true ∧ fs0.length < 1000 then .next (ρ.set 0 (some (.obj c' (putD f d fs0)))) else .stuck) := k1
        by_cases c : d.dup = true ∧ d.ret = true ∧ fs0.length < 1000
        · rw [if_pos c] at k1
          obtain ⟨c1, c2, c3⟩ := c
          obtain rfl := hd.fp_dup c1
          obtain ⟨fp, s, nds⟩ := rel.slots
          have s1 := s.ext x1
          cases s1 with
          | nil => simp at en
          | un _ => simp at en
          | val hd0 t =>
            simp at en
            subst en
            cases hd0 with
            | @obj a C dx _ fvs _ ea eb m ek es ep =>
              refine ⟨.ref a, by simp, a, C, dx, fvs, rfl, ea, by rw [hK]; exact m.cls, by rw [hK]; exact hn C m.g, by have w := congrArg List.length ek; rw [List.length_map, List.length_map] at w; omega, ?_⟩
              obtain ⟨p1, p2⟩ := putD_dats (f := f) hd ek es
              have ne : ∀ b ∈ ([] : List Addr), False := fun _ z => nomatch z
              obtain ⟨n1, n2, n3⟩ := List.nodup_append.mp nds
              refine k1 _ F1 B1 (upd H1 a (.ins C dx (putF f v fvs))) ⟨((rel.ext x1).base).upd eb, ⟨_, .val (.obj upd_same eb ⟨m.g, m.cls, fun g hg => ?_⟩ p1 (p2.stay (.refl _) (.refl _) fun _ z => nomatch z) (putD_pure c1 c2 ep)) (t.stay (.refl _) (.refl _) fun b z => ⟨upd_ne fun e => n3 a List.mem_cons_self b z e.symm, (t.foot b z).2⟩), nds⟩, rel.pin⟩
              rcases putD_keys hg with rfl | hg
              · exact hn C m.g
              · exact m.no g hg
        · rw [if_neg c] at k1; exact k1.elim
      · rw [if_neg ec] at k; exact k.elim
    · exact k.elim
end
end DH
namespace DH
open PySem L2

def hideH (x : Addr) (H : Hp) : Hp := fun a => if a = x then none else H a
theorem hideH_ne {x a : Addr} {H : Hp} (h : a ≠ x) : hideH x H a = H a := if_neg h
theorem hideH_same {x : Addr} {H : Hp} : hideH x H x = none := if_pos rfl
theorem hideH_sub {x : Addr} {H : Hp} : Same (hideH x H) H := fun a o e => by
  by_cases h : a = x
  · subst h; rw [hideH_same] at e; cases e
  · rw [hideH_ne h] at e; exact e
/-- what an __init__ promises: the fields of the instance -/
def spI (T : Tx) (c : Str) (n : Nat) (m : List D → Res (List (Str × D))) : Sp := fun vs H Q E => ∃ (x dx C : Addr) (vs' : List V) (F : Hp) (ds : List D), vs = .ref x :: vs' ∧ H x = some (.ins C dx []) ∧ F x = none ∧ Same F H ∧ T.mg c = some (.ref C) ∧ Cls T.K C ∧
  Dats T F (hideH x H) H vs' ds [] ∧ ds.length = n ∧ match m ds with
  | .ok fs => ∀ fvs C' dx' F' H', Same F F' → Same F' H' → Same (hideH x H) H' → (∀ a, H a ≠ none → F' a = F a) → H' x = some (.ins C' dx' fvs) → ClsAt T c C' (fs.map (·.1)) → fvs.map (·.1) = fs.map (·.1) → Dats T F' F' H' (fvs.map (·.2)) (fs.map (·.2)) [] → D.pureAll (fs.map (·.2)) = true → Q .non H'
  | .err c fs => ∀ cv y H', Same (hideH x H) H' → ExcAt T c fs cv y H' → E cv y H'
  | .stuck => False
/-- an __init__'s mirror -/
def endI (c : Str) : Option (Option D) → Res (List (Str × D))
  | some (some (.obj c' fs)) => if c' = c then .ok fs else .stuck
  | _ => .stuck
def runI (f : Rho → Out) (c : Str) (n : Nat) (ds : List D) : Res (List (Str × D)) := match f ((some (.obj c []) :: ds.map some) ++ List.replicate n none) with
  | .next ρ' => endI c ρ'[(0 : Nat)]?
  | .err c fs _ => .err c fs
  | _ => .stuck
section
open PySem.Spec PyProof.Rows
variable {P : Program} {w : World} {K : PySem.W.Frag} {mg : Str → Option Value} {base : Heap}
theorem in_mk {xn qual c : Str} {st : Stmt} {fa : Addr} {fd : FuncData} {N ps : List Str} {self : Str} {k : Nat} {f : Rho → Out} (F : Fun K xn qual st fa fd) (S : FnScope N (self :: ps) (defScope st))
    (hbody : ∀ (cdv : Value) (A : Around) (outer : List Env) (s : Shared) (H H0 F0 : Hp) (E : XK) (x0 : Addr), Room k (A.deeper (envOfC qual (defScope st) s.heap.objs.size fa cdv)) →
      Takes (cxOf (L2.CX P w) P w K mg base N qual (defScope st) fa cdv A outer s H E) (fun cls d _ H => E cls d H) →
      SB ⟨⟨K, mg⟩, H0, F0, [(0, x0)]⟩ (cxOf (L2.CX P w) P w K mg base N qual (defScope st) fa cdv A outer s H E) (fun cls d _ H => E cls d H) (defBody st) f) :
    FnOk P w K mg base (L2.CX P w) (k + 1) fa fd (self :: ps) (spI ⟨K, mg⟩ c ps.length (runI f c (N.length - (self :: ps).length))) := by
  refine F.okX S (fun vs H Q E h => ?_) (fun cdv A outer s H vs Q E hr h => ?_)
  · obtain ⟨x, dx, C, vs', F, ds, rfl, _, _, _, _, _, hd, hl, _⟩ := h
    show vs'.length + 1 = ps.length + 1
    rw [hd.length, hl]
  · obtain ⟨x, dx, C, vs', F, ds, rfl, hx, fx, sf, gC, cl, hd, hl, k⟩ := h
    refine ⟨_, hbody cdv A outer s H (hideH x H) F E x hr (takes_of rfl rfl rfl rfl), ?_⟩
    have sfh : Same F (hideH x H) := fun a o e => by rw [hideH_ne (fun z => by rw [z, fx] at e; cases e)]; exact sf a o e
    have hl' : (V.ref x :: vs').length = (self :: ps).length := by show vs'.length + 1 = ps.length + 1; rw [hd.length, hl]
    refine ⟨(some (.obj c []) :: ds.map some) ++ List.replicate (N.length - (self :: ps).length) none, F, hideH x H, ⟨⟨.refl _, sfh, hideH_sub, .refl _, fun _ _ => rfl⟩, ⟨[x] ++ [], ?_, nd1 x⟩, ⟨rfl, trivial⟩⟩, ?_⟩
    · unfold L2.start
      rw [hl']
      exact Slots.val (.obj hx hideH_same ⟨gC, cl, fun _ z => nomatch z⟩ rfl .nil rfl) (slots_args hd)
    · unfold runI at k
      cases z : f ((some (.obj c []) :: ds.map some) ++ List.replicate (N.length - (self :: ps).length) none) with
      | next ρ' =>
        rw [z] at k
        intro σ F' B' H' r
        obtain ⟨fp, s, nd⟩ := r.slots
        cases s with
        | nil => exact k.elim
        | un _ => exact k.elim
        | @val v0 d0 σ0 ρ0 p0 q0 h0 t0 =>
          cases d0 <;> first | exact k.elim | skip
          rename_i c' fs'
          have ep : (σ0 : L2.St) = σ0 := rfl
          have e0 : (some v0 :: σ0 : L2.St)[(0 : Nat)]? = some (some (V.ref x)) := r.pin.1
          simp at e0
          subst e0
          cases h0 with
          | @obj a C' dx' _ fvs _ ea eb m ek es ec =>
            by_cases ecc : c' = c
            · subst ecc
              have k : match (if c' = c' then Res.ok fs' else .stuck) with
                | .ok fs => ∀ fvs C' dx' F' H', Same F F' → Same F' H' → Same (hideH x H) H' → (∀ a, H a ≠ none → F' a = F a) → H' x = some (.ins C' dx' fvs) → ClsAt ⟨K, mg⟩ c' C' (fs.map (·.1)) → fvs.map (·.1) = fs.map (·.1) → Dats ⟨K, mg⟩ F' F' H' (fvs.map (·.2)) (fs.map (·.2)) [] → D.pureAll (fs.map (·.2)) = true → Q .non H'
                | .err c fs => ∀ cv y H', Same (hideH x H) H' → ExcAt ⟨K, mg⟩ c fs cv y H' → E cv y H'
                | .stuck => False := k
              rw [if_pos rfl] at k
              refine k fvs C' dx' F' H' r.base.f0 (r.base.fb.trans r.base.bh) (r.base.h0.trans r.base.bh) (fun a n => ?_) ea m ek (es.back r.base.fb (Bool.and_eq_true_iff.mp ec).2) ec
              by_cases hax : a = x
              · rw [hax, fx]
                exact r.base.fb.free eb
              · exact r.base.of0 a (show hideH x H a ≠ none by rw [hideH_ne hax]; exact n)
            · have k : match (if c' = c then Res.ok fs' else .stuck) with
                | .ok fs => ∀ fvs C' dx' F' H', Same F F' → Same F' H' → Same (hideH x H) H' → (∀ a, H a ≠ none → F' a = F a) → H' x = some (.ins C' dx' fvs) → ClsAt ⟨K, mg⟩ c C' (fs.map (·.1)) → fvs.map (·.1) = fs.map (·.1) → Dats ⟨K, mg⟩ F' F' H' (fvs.map (·.2)) (fs.map (·.2)) [] → D.pureAll (fs.map (·.2)) = true → Q .non H'
                | .err c fs => ∀ cv y H', Same (hideH x H) H' → ExcAt ⟨K, mg⟩ c fs cv y H' → E cv y H'
                | .stuck => False := k
              rw [if_neg ecc] at k
              exact k.elim
      | ret d => rw [z] at k; exact k.elim
      | brk ρ' => rw [z] at k; exact k.elim
      | cnt ρ' => rw [z] at k; exact k.elim
      | err c fs ρ' =>
        rw [z] at k
        exact fun cv x σ F' B' H' r ea => k cv x H' (r.base.h0.trans r.base.bh) ea
      | stuck => rw [z] at k; exact k.elim
end
def makeD (c : Str) (n : Nat) (m : List D → Res (List (Str × D))) (ds : List D) : Res D := if ds.length = n ∧ D.lenAll ds = true then (m (D.lendAll ds)).bind fun fs => .ok (.ins c fs) else .stuck
def eMake (c : Str) (n : Nat) (m : List D → Res (List (Str × D))) (fs : Rho → Res (List D)) : Rho → Res D := fun ρ => (fs ρ).bind (makeD c n m)
section
variable {G : Gam} {W : WX} {X : L2.Cx} {F B H F' B' H' : Hp} {σ : L2.St} {ρ : Rho} {e : Expr} {es : List Expr} {fs : Rho → Res (List D)} {pos p : Pos} {c x : Str} {m : List D → Res (List (Str × D))} {k n : Nat} {f C : Addr} {fd : FuncData} {ps : List Str}
theorem ev_make (M : Mk X.K C f) (F0 : FnOk X.prog X.w X.K X.mg X.base (L2.CX X.prog X.w) k f fd ps (spI ⟨X.K, X.mg⟩ c n m)) (hC : X.mg c = some (.ref C)) (hcl : Cls X.K C) (hb : Binds X.K fd ps []) (hT : G.T = ⟨X.K, X.mg⟩) (hr : Room (k + 1) X.A) (tk : Takes X W)
    (ha : EA G X W (e :: es) fs) (hg : Gl X c := by rfl) (hdb : (c == ("__debug__" : Str)) = false := by decide) (he : starEach (e :: es) X.env = (false, eval e X.env) :: starEach es X.env := by rfl) (hpl : (backTo pos (starEach es X.env)).any (·.1) = false := by rfl) :
    EV G X W (.Call (.Name c p) (e :: es) [] pos) (eMake c n m fs) := by
  refine pe_pre (pe_makeS M F0 hr hg hC hb (passAt tk) ha hdb he hpl) fun σ H Q ⟨ρ, F, B, rel, k⟩ => ⟨ρ, F, B, rel, (kE.bind k).mono fun ds F1 B1 H1 x1 k1 vs q hs x dx nx ndx nxd => ?_⟩
  have b1 := rel.base.ext x1
  obtain ⟨⟨hl, cc⟩, k1⟩ := kE.ite k1
  have nF : F1 x = none := b1.fb.free (b1.bh.free nx)
  have s1 : Same H1 (upd (upd H1 dx (.own x)) x (.ins C dx [])) := (same_upd ndx).trans (same_upd (by rw [upd_ne nxd.symm]; exact nx))
  have s2 : Same H1 (hideH x (upd (upd H1 dx (.own x)) x (.ins C dx []))) := fun a o e => by rw [hideH_ne (ne_of_none e nx)]; exact s1 a o e
  refine ⟨x, dx, C, vs, F1, D.lendAll ds, rfl, upd_same, nF, (b1.fb.trans b1.bh).trans s1, hC, hcl, ?_, by rw [lendAll_length]; exact hl, ?_⟩
  · rw [← hT]
    exact (hs.lent (.refl _) (b1.bh.trans s2) cc fun a z => (by
      have w := (hs.foot a z).1
      cases y : H1 a with
      | none => exact absurd y w
      | some o => exact s2 a o y))
  · cases z : m (D.lendAll ds) with
    | ok fs =>
      rw [z] at k1
      intro fvs C' dx' F' H' h1 h2 h3 h4 h5 h6 h7 h8 h9
      refine ⟨rfl, ?_⟩
      have nx' : F' x = none := by rw [h4 x (by rw [upd_same]; exact fun q => nomatch q)]; exact nF
      have sF : Same F' (upd F' x (.ins C' dx' fvs)) := same_upd nx'
      have ex : Ext F1 B1 H1 (upd F' x (.ins C' dx' fvs)) (joinH B1 (upd F' x (.ins C' dx' fvs))) H' := by
        refine Ext.called b1.fb b1.bh (h1.trans sF) (fun a o e => ?_) (s2.trans h3) fun a na => ?_
        · by_cases hax : a = x
          · subst hax; rw [upd_same] at e; cases e; exact h5
          · rw [upd_ne hax] at e; exact h2 a o e
        · have hax : a ≠ x := fun z => na (by rw [z]; exact nx)
          rw [upd_ne hax]
          refine h4 a ?_
          cases y : H1 a with
          | none => exact absurd y na
          | some o => rw [s1 a o y]; exact fun q => nomatch q
      rw [← hT] at h6 h8
      exact k1 _ _ H' ex (.ref x) [] (.ins upd_same h6 h7 (h8.stay sF ((sF).trans ex.fb) fun _ z => nomatch z) h9) List.nodup_nil fun _ z => nomatch z
    | err c fs =>
      rw [z] at k1
      refine fun cv y H' s ea => k1 cv y F1 B1 H' ⟨.refl _, .refl _, s2.trans s, b1.fb, b1.bh.trans (s2.trans s), fun _ _ => rfl, fun _ _ => rfl⟩ (by rw [hT]; exact ea)
    | stuck => rw [z] at k1; exact k1
end
end DH
namespace DH
open PySem L2

abbrev veL : List Value := [.type "ValueError", .type "Exception", .type "BaseException", .type "object"]
/-- an own exception class without __init__ -/
structure Ex0 (K : PySem.W.Frag) (mg : Str → Option Value) (x : Str) (C : Addr) : Prop where
  g : mg x = some (.ref C)
  ex : PySem.W.excIn K C veL "ValueError.__new__" = true
  kp : PySem.W.keepIn K (.ref C) = true
  sub : PySem.W.subIn K (.ref C) (.type "BaseException") = some true
  ty : PySem.W.typeIn K (.ref C) = some (.type "type")
def sRaise0 (c : Str) : Rho → Out := fun ρ => .err c [] ρ
section
variable {G : Gam} {W : WX} {X : L2.Cx} {F B H F' B' H' : Hp} {σ : L2.St} {ρ : Rho} {D' : Ends} {e o : Expr} {es : List Expr} {fe : Rho → Res D} {fs : Rho → Res (List D)} {pos p p2 pos2 : Pos} {c x m : Str} {j k n : Nat} {C : Addr}
theorem ss_raise0 (E : Ex0 X.K X.mg x C) (hT : G.T = ⟨X.K, X.mg⟩) (hc : X.calm = true) (tk : Takes X W) (hg : Gl X x := by rfl) (hdb : (x == ("__debug__" : Str)) = false := by decide) :
    SS G X W (.Raise (some (.Call (.Name x p) [.Constant (.str m) j p2] [] pos)) none pos2) (sRaise0 x) :=
  ps_pre (ps_raise hc tk (pmk_own PySem.F.excBase_ValueError E.ex E.g E.kp (raises_own E.sub E.ty) hg hdb)) fun D' σ H ⟨ρ, F, B, rel, k⟩ => k (.ref C) none σ F B H rel ⟨C, by rw [hT]; exact E.g, rfl, rfl⟩

/-- what the __init__ of an own exception leaves -/
def spX (K : PySem.W.Frag) (fl : List Str) : Sp := fun vs H Q _ => ∃ (a C : Addr) (ys : List V), vs = .ref a :: ys ∧ ys.length = fl.length ∧ OexC K C ∧ (∀ f ∈ fl, PySem.W.findIn K (.ref C) f = some none) ∧ H a = some (exo a C none) ∧
  ∀ dx H', H dx = none → dx ≠ a → H' a = some (exo a C (some dx)) → H' dx = some (exd dx (fl.zip ys).reverse) → (∀ b, b ≠ a → b ≠ dx → H' b = H b) → Q .non H'
/-- an own exception class whose __init__ keeps its arguments -/
structure ExN (P : Program) (w : World) (K : PySem.W.Frag) (mg : Str → Option Value) (base : Heap) (x : Str) (C : Addr) (fl : List Str) : Prop where
  g : mg x = some (.ref C)
  ox : OexC K C
  no : ∀ f ∈ fl, PySem.W.findIn K (.ref C) f = some none
  ini : ∃ fI fd ps, PySem.W.findIn K (.ref C) "__init__" = some (some (.ref fI)) ∧ PySem.W.typeIn K (.ref fI) = some (.type "function") ∧ FnOk P w K mg base (L2.CX P w) 1 fI fd ps (spX K fl) ∧ Binds K fd ps []
def sVs : List D → Option (List V)
  | [] => some []
  | d :: ds => (sV d).bind fun v => (sVs ds).map (v :: ·)
theorem sVs_of {T : Tx} : ∀ {ds : List D} {vs ws : List V} {p : List Addr}, Dats T F B H vs ds p → sVs ds = some ws → vs = ws
  | [], _, _, _, h, e => by
    cases e
    exact h.unnil.1
  | d :: ds, _, _, _, h, e => by
    obtain ⟨v, us, p, q, rfl, _, h1, h2⟩ := h.uncons
    unfold sVs at e
    cases z : sV d with
    | none => rw [z] at e; cases e
    | some v' =>
      rw [z] at e
      cases z2 : sVs ds with
      | none => rw [z2] at e; cases e
      | some us' =>
        rw [z2] at e
        cases e
        rw [Dat.sV (G := ⟨T, F, F, []⟩) h1 z, sVs_of h2 z2]
def raiseK (c : Str) (fl : List Str) (ρ : Rho) (ds : List D) : Out := match sVs ds with
  | some vs => if vs.length = fl.length ∧ fl.length < 900 ∧ 0 < fl.length then .err c (fl.zip vs).reverse ρ else .stuck
  | none => .stuck
def sRaise (c : Str) (fl : List Str) (fs : Rho → Res (List D)) : Rho → Out := fun ρ => oBind (fs ρ) ρ (raiseK c fl ρ)
theorem ss_raise {fl : List Str} (E : ExN X.prog X.w X.K X.mg X.base x C fl) (hT : G.T = ⟨X.K, X.mg⟩) (hc : X.calm = true) (hr : Room 2 X.A) (tk : Takes X W) (ha : EA G X W (e :: es) fs) (hg : Gl X x := by rfl) (hdb : (x == ("__debug__" : Str)) = false := by decide)
    (he : starEach (e :: es) X.env = (false, eval e X.env) :: starEach es X.env := by rfl) (hpl : (backTo pos (starEach es X.env)).any (·.1) = false := by rfl) :
    SS G X W (.Raise (some (.Call (.Name x p) (e :: es) [] pos)) none pos2) (sRaise x fl fs) := by
  obtain ⟨fI, fd, ps, iC, tI, F1, hb⟩ := E.ini
  refine ps_pre (ps_raise hc tk (pmk_oex E.ox iC tI F1 hr hb .nil passL hg E.g ha hdb he hpl)) fun D' σ H ⟨ρ, F, B, rel, k⟩ => ⟨ρ, F, B, rel, (kS.bind rel k).mono fun ds F1 B1 H1 x1 k1 vs p hd => ?_⟩
  unfold raiseK at k1
  split at k1
  · rename_i ws ew
    obtain rfl := sVs_of hd ew
    by_cases c : vs.length = fl.length ∧ fl.length < 900 ∧ 0 < fl.length
    · rw [if_pos c] at k1
      refine ⟨by omega, fun a na => ⟨a, C, vs, by rw [List.append_nil], c.1, E.ox, E.no, upd_same, fun dx H' nd nda e1 e2 e3 => ⟨rfl, dx, (fl.zip vs).reverse, e1, e2, ?_, ?_⟩⟩⟩
      · rw [upd_ne nda] at nd
        exact nd
      · rw [upd_ne nda] at nd
        have s1 : Same H1 (upd (del H' a) dx (.xd (fl.zip vs).reverse)) := fun b o y => by
          have hb1 := ne_of_none y na
          have hb2 := ne_of_none y nd
          rw [upd_ne hb2, del_ne hb1, e3 b hb1 hb2, upd_ne hb1]
          exact y
        have b1 := rel.base.ext x1
        refine k1 (.ref C) (some dx) σ F1 B1 _ ((rel.ext x1).ext ⟨.refl _, .refl _, s1, b1.fb, b1.bh.trans s1, fun _ _ => rfl, fun _ _ => rfl⟩) ⟨C, by rw [hT]; exact E.g, rfl, ?_⟩
        cases z : (fl.zip vs).reverse with
        | nil =>
          have w : min fl.length vs.length = 0 := by rw [← List.length_zip, ← List.length_reverse, z]; rfl
          omega
        | cons f r => exact ⟨dx, rfl, upd_same⟩
    · rw [if_neg c] at k1; exact k1.elim
  · exact k1.elim
end
section
open PySem.Spec PyProof.Rows
variable {P : Program} {w : World} {K : PySem.W.Frag} {mg : Str → Option Value} {base : Heap}
theorem ex_mk1 {xn qual f : Str} {st : Stmt} {fa : Addr} {fd : FuncData} {a b : Str} (F : Fun K xn qual st fa fd) (S : FnScope [a, b] [a, b] (defScope st))
    (hbody : ∀ (cdv : Value) (A : Around) (outer : List Env) (s : Shared) (H : Hp) (E : XK), PSs (cxOf (L2.CX P w) P w K mg base [a, b] qual (defScope st) fa cdv A outer s H E) (defBody st) (tOst K f (tVar 0) (tVar 1))) :
    FnOk P w K mg base (L2.CX P w) 1 fa fd [a, b] (spX K [f]) := by
  refine F.okX S (fun vs H Q E h => ?_) (fun cdv A outer s H vs Q E hr h => ⟨_, hbody cdv A outer s H E, ?_⟩)
  · obtain ⟨x, C, ys, rfl, hl, _⟩ := h
    show ys.length + 1 = 2
    rw [hl]; rfl
  · obtain ⟨x, C, ys, rfl, hl, ox, no, hx, k⟩ := h
    match ys, hl with
    | [y], _ =>
      refine ⟨y, rfl, .ref x, rfl, x, C, rfl, ox, no f (by simp), .inl ⟨hx, fun dx nd ne => k dx _ nd ne upd_same ?_ fun c h1 h2 => ?_⟩⟩
      · rw [upd_ne ne, upd_same]; rfl
      · rw [upd_ne h1, upd_ne h2]
theorem ex_mk2 {xn qual f g : Str} {st : Stmt} {fa : Addr} {fd : FuncData} {a b c : Str} (F : Fun K xn qual st fa fd) (S : FnScope [a, b, c] [a, b, c] (defScope st))
    (hbody : ∀ (cdv : Value) (A : Around) (outer : List Env) (s : Shared) (H : Hp) (E : XK), PSs (cxOf (L2.CX P w) P w K mg base [a, b, c] qual (defScope st) fa cdv A outer s H E) (defBody st) (tSeq (tOst K f (tVar 0) (tVar 1)) (tOst K g (tVar 0) (tVar 2)))) :
    FnOk P w K mg base (L2.CX P w) 1 fa fd [a, b, c] (spX K [f, g]) := by
  refine F.okX S (fun vs H Q E h => ?_) (fun cdv A outer s H vs Q E hr h => ⟨_, hbody cdv A outer s H E, ?_⟩)
  · obtain ⟨x, C, ys, rfl, hl, _⟩ := h
    show ys.length + 1 = 3
    rw [hl]; rfl
  · obtain ⟨x, C, ys, rfl, hl, ox, no, hx, k⟩ := h
    match ys, hl with
    | [y, z], _ =>
      refine ⟨y, rfl, .ref x, rfl, x, C, rfl, ox, no f (by simp), .inl ⟨hx, fun dx nd ne => ?_⟩⟩
      have e1 : (upd (upd H dx (exd dx [(f, y)])) x (exo x C (some dx))) dx = some (exd dx [(f, y)]) := by rw [upd_ne ne, upd_same]
      refine ⟨z, rfl, .ref x, rfl, x, C, rfl, ox, no g (by simp), .inr ⟨dx, [(f, y)], upd_same, e1, (by simp), k dx _ nd ne ?_ upd_same fun c h1 h2 => ?_⟩⟩
      · rw [upd_ne ne.symm, upd_same]
      · rw [upd_ne h2, upd_ne h1, upd_ne h2]
end
end DH
namespace DH
open PySem L2
section
open PySem.Spec PyProof.Rows
/-- an except clause: its class, the slot of its name, its suite -/
abbrev Cl := Value × Option Nat × (Addr → Value → Option Addr → TS)
def endsA (D : Ends) : Option Nat → Ends
  | none => D
  | some i => { nx := fun σ' H' => D.nx (σ'.set i none) H', rt := D.rt, bk := fun σ' H' => D.bk (σ'.set i none) H', ct := fun σ' H' => D.ct (σ'.set i none) H' }
def slotA (σ : L2.St) (a : Addr) : Option Nat → L2.St
  | none => σ
  | some i => σ.set i (some (.ref a))
def wManyA (K : PySem.W.Frag) (Wout : WX) (D : Ends) : List Cl → WX
  | [] => Wout
  | (c, o, ts) :: r => fun cls d σ H => ∃ b, PySem.W.exmOne K cls c = some b ∧ (b = true → ∀ a, H a = none → ts a cls d (endsA D o) (slotA σ a o) H) ∧ (b = false → wManyA K Wout D r cls d σ H)
inductive HdsA (X : L2.Cx) : List ExceptHandler → List Cl → Prop
  | nil : HdsA X [] []
  | cons {x : Str} {c : Value} {ts : Addr → Value → Option Addr → TS} {b₀ : Stmt} {suite : List Stmt} {np pos' : Pos} {hds : List ExceptHandler} {l : List Cl} (hc : Names X x c)
      (hsu : ∀ (a : Addr) (oe : Obj) (cls : Value) (d : Option Addr) (pn : List (Addr × Obj)), Zc cls d oe → (∃ vs, oe.data = .fields vs) → PSs (X.suite a ((a, oe) :: pn)) (b₀ :: suite) (ts a cls d)) (r : HdsA X hds l) :
      HdsA X (.ExceptHandler (some (.Name x np)) none (b₀ :: suite) pos' :: hds) ((c, none, ts) :: l)
  | consA {x n : Str} {i : Nat} {c : Value} {ts : Addr → Value → Option Addr → TS} {b₀ : Stmt} {suite : List Stmt} {np pos' : Pos} {hds : List ExceptHandler} {l : List Cl} (hc : Names X x c) (hi : X.N[i]? = some n) (hln : X.env.kindOf n = some .local)
      (hsu : ∀ (a : Addr) (oe : Obj) (cls : Value) (d : Option Addr) (pn : List (Addr × Obj)), Zc cls d oe → (∃ vs, oe.data = .fields vs) → PSs (X.suite a ((a, oe) :: pn)) (b₀ :: suite) (ts a cls d)) (r : HdsA X hds l) :
      HdsA X (.ExceptHandler (some (.Name x np)) (some n) (b₀ :: suite) pos' :: hds) ((c, some i, ts) :: l)
variable {X : L2.Cx} {body : List Stmt} {h₀ : ExceptHandler} {hds : List ExceptHandler} {l : List Cl} {pos : Pos} {tb : WX → TS} {Wout : WX}
theorem ps_try_A (hs : X.stack = X.env :: X.outer) (hf : X.env.frame = some X.env.locals) (hN : X.N.Nodup) (tk : Takes X Wout)
    (hb : ∀ (W : WX) (pn : List (Addr × Obj)) (xe : Value → Shared → Prop), Takes (X.tr pn xe) W → PassesOwn (model X.prog X.w) X.A X.env xe → PSs (X.tr pn xe) body (tb W))
    (hh : HdsA X (h₀ :: hds) l) : PS X (.Try body (h₀ :: hds) [] [] pos) (fun D σ H => tb (wManyA X.K Wout D l) D σ H) := by
  refine ⟨fun pins s σ H D I h => ?_⟩
  have ok := I.ok
  have hfr : X.A.frames = some (X.env :: X.outer) := by rw [ok.frames, hs]
  refine wpAny_Try_except ?_
  refine wpAny_mono ((hb (wManyA X.K Wout D l) (X.pn ++ pins) (fun e s₁ => wpAny (model X.prog X.w) X.A (noteFrame e X.env) (fun _ s₂ => wpAny (model X.prog X.w) X.A (setFlight e none) (fun _ s₃ =>
    wpAny (model X.prog X.w) X.A (handleBy e X.env (h₀ :: hds)) (SP X pins D) X.xe s₃) X.xe s₂) X.xe s₁) (fun u s' xx => ?_) PassesOwn.looking).run [] s σ H D (I.toTry _) h) (fun f s1 hsp => ?_) (fun e s1 he => he)
  · -- the catch
    obtain ⟨a, B, sI, pins', σ', H', cls, d, rfl, J', nb, up, sky, na, os, ag, w⟩ := xx
    have J : Inv X pins σ' H' sI := J'.ofTry ok
    have sky' : Sky B (X.env :: X.outer) a (Zc cls d) X.env.locals s'.heap := by rw [← hs]; exact sky
    show wpAny (model X.prog X.w) X.A (noteFrame (.ref a) X.env) _ _ _
    refine Sky.land Zc.steady hfr hf sky' fun h3 fl3 up3 => ?_
    have J3 : Inv X pins σ' H' { s' with heap := h3 } := J.landed nb fl3.1 (up.trans up3) os ag
    obtain ⟨oe3, vs3, he3, hz3, hd3⟩ := fl3.there
    have notFr : ∀ {h : Heap} {o : Obj} {vs : Array Value}, h.FunFrames B (X.env :: X.outer) → h.get? a = some o → o.data = .fields vs → a ∉ frs (X.env :: X.outer) := fun {h o vs} ff e dd hm => by
      obtain ⟨_, o', e', hnf⟩ := ff.mem hm
      rw [e] at e'; cases e'
      exact hnf _ dd
    have nfr := notFr fl3.2.2.1 he3 hd3
    have nL : a ≠ X.env.locals := fun z => nfr (List.mem_filterMap.mpr ⟨X.env, List.mem_cons_self, by rw [hf, z]⟩)
    have nF : a ∉ X.fs := fun hm => by
      obtain ⟨e, he, q⟩ := List.mem_filterMap.mp hm
      exact nfr (List.mem_filterMap.mpr ⟨e, List.mem_cons_of_mem _ he, q⟩)
    have S3 := J3.suite he3 hd3 na nL nF
    have go : ∀ {hds' : List ExceptHandler} {l' : List Cl}, HdsA X hds' l' → wManyA X.K Wout D l' cls d σ' H' →
        wpAny (model X.prog X.w) X.A (handleBy (.ref a) X.env hds') (SP X pins D) X.xe { s' with heap := h3 } := by
      intro hds' l' hk
      induction hk with
      | nil =>
        intro w
        refine wpAny_handleBy_nil ?_
        obtain ⟨k1, k2, k3, oe, vs, T, oT, ts', he, hz, hd, h1, hr⟩ := id fl3
        unfold PySem.passOn
        refine wpAny_bind (wpAny_field he hd h1 ?_)
        rw [if_neg (show ¬ ((Value.ref T == Value.none) = true) from by simp)]
        have fin : wpAny (model X.prog X.w) X.A (setFlight (.ref a) X.env.frame) (fun _ s4 => wpAny (model X.prog X.w) X.A (throw (.ref a) : Sem Flow) (SP X pins D) X.xe s4) X.xe { s' with heap := h3 } := by
          rw [hf]
          refine HandSPX.setFlight_upZ fl3 fun h4 hh4 up4 => wpAny_throw (tk _ _ ?_)
          exact ⟨a, B, sI, pins, σ', H', cls, d, rfl, J, nb, (up.trans up3).trans up4, .inr (.inr (by rw [hs]; exact hh4)), na, os, ag, w⟩
        first
          | exact wpAny_bind (wpAny_pure (wpAny_bind fin))
          | exact wpAny_bind fin
      | @cons x c ts b₀ suite np pos' hds2 l2 hc hsu r ih =>
        intro w
        obtain ⟨b, hb1, hyes, hno⟩ := w
        refine wpAny_handleBy_cons (codeAny_handlers_test ?_) (by intro q; cases q)
        have LT : PySem.W.Looks (model X.prog X.w) h3 (typeOf (.ref a)) cls := fun A Q E s k q => wpAny_typeOf_ref (k _ _ he3) (by rw [hz3.1]; exact q)
        have LM := PySem.W.exm_one (M := model X.prog X.w) (J3.kIn) LT hb1
        have test : ∀ {Q : Value → Shared → Prop} {E : Value → Shared → Prop}, Q c { s' with heap := h3 } → wpAny (model X.prog X.w) (X.A.mark (some (.ref a))) (eval (.Name x np) X.env) Q E { s' with heap := h3 } := fun {Q E} q => by
          obtain ⟨hg, hdbg, hm | ⟨hm, hv, hnn⟩⟩ := hc
          · exact ld_glob (X := X.suite a ((a, oe3) :: (X.pn ++ pins))) S3 hg hm q hdbg
          · exact ld_blt (X := X.suite a ((a, oe3) :: (X.pn ++ pins))) S3 hg hm hv q hnn hdbg
        refine test (LM.here ?_)
        cases b with
        | true =>
          refine codeAny_handlers_suite ?_
          refine HandSPX.lands_againZ fl3 fun h4 fl4 up4 => ?_
          have J4 : Inv X pins σ' H' { s' with heap := h4 } := J.landed nb fl4.1 ((up.trans up3).trans up4) os ag
          obtain ⟨oe4, vs4, he4, hz4, hd4⟩ := fl4.there
          have S4 := J4.suite he4 hd4 na nL nF
          refine wpAny_mono ((hsu a oe4 cls d (X.pn ++ pins) hz4 ⟨_, hd4⟩).run [] _ _ H' _ S4 (hyes rfl a na)) (fun f s6 hsp => ?_) (fun _ _ z => False.elim z)
          cases f with
          | next =>
            obtain ⟨σ6, H6, S6, q6⟩ := hsp
            exact ⟨_, _, S6.unsuite ok, q6⟩
          | brk =>
            obtain ⟨σ6, H6, S6, q6⟩ := hsp
            exact ⟨_, _, S6.unsuite ok, q6⟩
          | cont =>
            obtain ⟨σ6, H6, S6, q6⟩ := hsp
            exact ⟨_, _, S6.unsuite ok, q6⟩
          | ret u =>
            obtain ⟨v6, σ6, H6, S6, r6, q6⟩ := hsp
            exact ⟨_, _, _, S6.unsuite ok, r6, q6⟩
        | false =>
          show wpAny _ X.A (handleBy (.ref a) X.env hds2) _ _ _
          exact ih (hno rfl)
      | @consA x n i c ts b₀ suite np pos' hds2 l2 hc hi hln hsu r ih =>
        intro w
        have hloc : Loc X.env.scope n := .inl hln
        obtain ⟨b, hb1, hyes, hno⟩ := w
        refine wpAny_handleBy_cons (codeAny_handlers_test ?_) (by intro q; cases q)
        have LT : PySem.W.Looks (model X.prog X.w) h3 (typeOf (.ref a)) cls := fun A Q E s k q => wpAny_typeOf_ref (k _ _ he3) (by rw [hz3.1]; exact q)
        have LM := PySem.W.exm_one (M := model X.prog X.w) (J3.kIn) LT hb1
        have test : ∀ {Q : Value → Shared → Prop} {E : Value → Shared → Prop}, Q c { s' with heap := h3 } → wpAny (model X.prog X.w) (X.A.mark (some (.ref a))) (eval (.Name x np) X.env) Q E { s' with heap := h3 } := fun {Q E} q => by
          obtain ⟨hg, hdbg, hm | ⟨hm, hv, hnn⟩⟩ := hc
          · exact ld_glob (X := X.suite a ((a, oe3) :: (X.pn ++ pins))) S3 hg hm q hdbg
          · exact ld_blt (X := X.suite a ((a, oe3) :: (X.pn ++ pins))) S3 hg hm hv q hnn hdbg
        refine test (LM.here ?_)
        cases b with
        | true =>
          refine codeAny_handlers_suite_as ?_
          refine HandSPX.lands_againZ fl3 fun h4 fl4 up4 => ?_
          have J4 : Inv X pins σ' H' { s' with heap := h4 } := J.landed nb fl4.1 ((up.trans up3).trans up4) os ag
          obtain ⟨oe4, vs4, he4, hz4, hd4⟩ := fl4.there
          have S4 := J4.suite he4 hd4 na nL nF
          refine store_ok (X := X.suite a ((a, oe4) :: (X.pn ++ pins))) (v := .ref a) S4 hN hi hloc rfl (fun s5 S5 => ?_) (.inr hln)
          refine wpAny_mono ((hsu a oe4 cls d (X.pn ++ pins) hz4 ⟨_, hd4⟩).run [] s5 _ H' _ S5 (hyes rfl a na)) (fun f s6 hsp => ?_) (fun _ _ z => False.elim z)
          have end_ : ∀ {σ6 : L2.St} {H6 : Hp} {Q : Shared → Prop}, Inv (X.suite a ((a, oe4) :: (X.pn ++ pins))) [] σ6 H6 s6 → (∀ s7, Inv X pins (σ6.set i none) H6 s7 → Q s7) →
              wpAny (model X.prog X.w) X.A (do bindName X.env n .none; unbindBehindTheSuite X.env n pos') (fun _ s7 => Q s7) X.xe s6 := fun {σ6 H6 Q} S6 hq => gone_ok (S6.unsuite ok) hN hi hln hq
          cases f with
          | next =>
            obtain ⟨σ6, H6, S6, q6⟩ := hsp
            exact end_ S6 fun s7 J7 => ⟨_, _, J7, q6⟩
          | brk =>
            obtain ⟨σ6, H6, S6, q6⟩ := hsp
            exact end_ S6 fun s7 J7 => ⟨_, _, J7, q6⟩
          | cont =>
            obtain ⟨σ6, H6, S6, q6⟩ := hsp
            exact end_ S6 fun s7 J7 => ⟨_, _, J7, q6⟩
          | ret u =>
            obtain ⟨v6, σ6, H6, S6, r6, q6⟩ := hsp
            exact end_ S6 fun s7 J7 => ⟨_, _, _, J7, r6, q6⟩
        | false =>
          show wpAny _ X.A (handleBy (.ref a) X.env hds2) _ _ _
          exact ih (hno rfl)
    exact go hh w
  · cases f with
    | next =>
      obtain ⟨σ', H', J', q⟩ := hsp
      exact wpAny_execs_nil ⟨σ', H', J'.ofTry ok, q⟩
    | brk =>
      obtain ⟨σ', H', J', q⟩ := hsp
      exact ⟨σ', H', J'.ofTry ok, q⟩
    | cont =>
      obtain ⟨σ', H', J', q⟩ := hsp
      exact ⟨σ', H', J'.ofTry ok, q⟩
    | ret u =>
      obtain ⟨v, σ', H', J', r, q⟩ := hsp
      exact ⟨v, σ', H', J'.ofTry ok, r, q⟩
end

/-! ### try over data -/
/-- a clause: its class, its name's slot, its suite's mirror (over the exception's fields) -/
structure ClD where
  cls : Str
  slot : Option Nat
  f : List (Str × V) → Rho → Out
def rhoA (ρ : Rho) : Option Nat → Rho
  | none => ρ
  | some i => ρ.set i none
/-- a suite returns, or it goes on with its name unbound -/
def behindA (o : Option Nat) : Out → Out
  | .next ρ => .next (rhoA ρ o)
  | .ret d => .ret d
  | _ => .stuck
def slotOk (ρ : Rho) : Option Nat → Bool
  | none => true
  | some i => decide (i < ρ.length)
def handle (sub : Str → Str → Option Bool) (c : Str) (fs : List (Str × V)) (ρ : Rho) : List ClD → Out
  | [] => .err c fs ρ
  | k :: r => match sub c k.cls with
    | some true => if slotOk ρ k.slot then behindA k.slot (k.f fs (rhoA ρ k.slot)) else .stuck
    | some false => handle sub c fs ρ r
    | none => .stuck
def sTry (sub : Str → Str → Option Bool) (f : Rho → Out) (hs : List ClD) : Rho → Out := fun ρ => match f ρ with
  | .err c fs ρ' => handle sub c fs ρ' hs
  | o => o
/-- what the table of classes says is so -/
def SubOk (T : Tx) (sub : Str → Str → Option Bool) : Prop := ∀ c k b, sub c k = some b → ∃ C K, T.mg c = some (.ref C) ∧ T.mg k = some (.ref K) ∧ PySem.W.exmOne T.K (.ref C) (.ref K) = some b
/-- the exception's dict stands from the suite's begin on -/
def XdAt (G : Gam) (fs : List (Str × V)) (d : Option Addr) : Prop := match fs with
  | [] => True
  | f :: r => ∃ dd, d = some dd ∧ ∀ H, Same G.H0 H → H dd = some (.xd (f :: r))
section
variable {G : Gam} {W : WX} {X : L2.Cx} {F B H F' B' H' : Hp} {σ : L2.St} {ρ : Rho} {D' : Ends} {e o : Expr} {body : List Stmt} {f : Rho → Out} {pos : Pos} {h₀ : ExceptHandler} {hds : List ExceptHandler} {sub : Str → Str → Option Bool}
/-- the clauses' derivations -/
inductive HdsD (sub : Str → Str → Option Bool) (G : Gam) (X : L2.Cx) : List ExceptHandler → List ClD → Prop
  | nil : HdsD sub G X [] []
  | cons {x : Str} {f : List (Str × V) → Rho → Out} {b₀ : Stmt} {suite : List Stmt} {np pos' : Pos} {hds : List ExceptHandler} {l : List ClD} {Kx : Addr} (hm : X.mg x = some (.ref Kx)) (hg : Gl X x) (hdb : (x == ("__debug__" : Str)) = false)
      (hsu : ∀ (fs : List (Str × V)) (G' : Gam) (C : Addr) (a : Addr) (oe : Obj) (d : Option Addr) (pn : List (Addr × Obj)), G'.T = G.T → G'.pin = G.pin → XdAt G' fs d → Zc (.ref C) d oe → (∃ vs, oe.data = .fields vs) → (∃ c, X.mg c = some (.ref C) ∧ sub c x = some true) → SB G' (X.suite a ((a, oe) :: pn)) W0 (b₀ :: suite) (f fs)) (r : HdsD sub G X hds l) :
      HdsD sub G X (.ExceptHandler (some (.Name x np)) none (b₀ :: suite) pos' :: hds) (⟨x, none, f⟩ :: l)
  | consA {x n : Str} {i : Nat} {f : List (Str × V) → Rho → Out} {b₀ : Stmt} {suite : List Stmt} {np pos' : Pos} {hds : List ExceptHandler} {l : List ClD} {Kx : Addr} (hm : X.mg x = some (.ref Kx)) (hg : Gl X x) (hdb : (x == ("__debug__" : Str)) = false) (hi : X.N[i]? = some n) (hln : X.env.kindOf n = some .local) (hpn : G.pin = [])
      (hsu : ∀ (fs : List (Str × V)) (G' : Gam) (C : Addr) (a : Addr) (oe : Obj) (d : Option Addr) (pn : List (Addr × Obj)), G'.T = G.T → G'.pin = [(i, a)] → XdAt G' fs d → Zc (.ref C) d oe → (∃ vs, oe.data = .fields vs) → (∃ c, X.mg c = some (.ref C) ∧ sub c x = some true) → SB G' (X.suite a ((a, oe) :: pn)) W0 (b₀ :: suite) (f fs)) (r : HdsD sub G X hds l) :
      HdsD sub G X (.ExceptHandler (some (.Name x np)) (some n) (b₀ :: suite) pos' :: hds) (⟨x, some i, f⟩ :: l)
mutual
theorem Dat.footL {T : Tx} : ∀ {v : V} {d : D} {p : List Addr}, Dat T F B H v d p → ∀ a ∈ p, (∃ vs, H a = some (.lst vs)) ∨ ∃ C dx fs, H a = some (.ins C dx fs)
  | _, _, _, .non, _, z => nomatch z
  | _, _, _, .bl b, _, z => nomatch z
  | _, _, _, .int i, _, z => nomatch z
  | _, _, _, .str x, _, z => nomatch z
  | _, _, _, .frz _ _ _, _, z => nomatch z
  | _, _, _, .own e n h _, a, z => by
    rcases List.mem_cons.mp z with rfl | z
    · exact .inl ⟨_, e⟩
    · exact Dats.footL h a z
  | _, _, _, .tmp e n h, a, z => by
    rcases List.mem_cons.mp z with rfl | z
    · exact .inl ⟨_, e⟩
    · exact Dats.footL h a z
  | _, _, _, .bor _ _ _, _, z => nomatch z
  | _, _, _, .tup _ h, a, z => Dats.footL h a z
  | _, _, _, .ins _ _ _ _ _, _, z => nomatch z
  | _, _, _, .obj e n _ _ _ _, a, z => by
    rcases List.mem_cons.mp z with rfl | z
    · exact .inr ⟨_, _, _, e⟩
    · exact nomatch z
  | _, _, _, .scr _, _, z => nomatch z
theorem Dats.footL {T : Tx} : ∀ {vs : List V} {ds : List D} {p : List Addr}, Dats T F B H vs ds p → ∀ a ∈ p, (∃ vs, H a = some (.lst vs)) ∨ ∃ C dx fs, H a = some (.ins C dx fs)
  | _, _, _, .nil, _, z => nomatch z
  | _, _, _, .cons h t, a, z => by
    rcases List.mem_append.mp z with z | z
    · exact Dat.footL h a z
    · exact Dats.footL t a z
end
theorem Slots.footL {T : Tx} : ∀ {σ : L2.St} {ρ : Rho} {p : List Addr}, Slots T F B H σ ρ p → ∀ a ∈ p, (∃ vs, H a = some (.lst vs)) ∨ ∃ C dx fs, H a = some (.ins C dx fs)
  | _, _, _, .nil, _, z => nomatch z
  | _, _, _, .un t, a, z => t.footL a z
  | _, _, _, .val h t, a, z => by
    rcases List.mem_append.mp z with z | z
    · exact h.footL a z
    · exact t.footL a z
/-- what the suite's context begins with: the exception's dict stands -/
theorem suite_gam {c : Str} {fs : List (Str × V)} {cv : Value} {x : Option Addr} (rel : RelS G ρ F B σ H) (ea : ExcAt G.T c fs cv x H) : ∃ B2, Same B B2 ∧ Same B2 H ∧ Same F B2 ∧ (∀ fp, Slots G.T F B H σ ρ fp → Slots G.T F B2 H σ ρ fp) ∧ ∀ pin, XdAt ⟨G.T, B2, F, pin⟩ fs x := by
  obtain ⟨C, gC, rfl, ea⟩ := ea
  cases fs with
  | nil => exact ⟨B, .refl _, rel.base.bh, rel.base.fb, fun fp h => h, fun _ => trivial⟩
  | cons f r =>
    obtain ⟨dd, rfl, hd⟩ := ea
    have sb : Same B (upd B dd (.xd (f :: r))) := fun b o e => by
      by_cases h : b = dd
      · subst h
        have w := rel.base.bh _ _ e
        rw [hd] at w
        cases w
        exact upd_same
      · rw [upd_ne h]; exact e
    refine ⟨upd B dd (.xd (f :: r)), sb, fun b o e => ?_, rel.base.fb.trans sb, fun fp h => h.stay (.refl _) sb fun a z => ⟨rfl, ?_⟩, fun pin => ⟨dd, rfl, fun H' s => s dd _ upd_same⟩⟩
    · by_cases h : b = dd
      · subst h; rw [upd_same] at e; cases e; exact hd
      · rw [upd_ne h] at e; exact rel.base.bh _ _ e
    · have ne : a ≠ dd := fun z2 => by
        rcases h.footL a z with ⟨vs, w⟩ | ⟨C', dx, fs', w⟩
        · rw [z2, hd] at w; cases w
        · rw [z2, hd] at w; cases w
      rw [upd_ne ne]
      exact (h.foot a z).2
theorem hds_run {cl : List ClD} {hds : List ExceptHandler} (hT : G.T = ⟨X.K, X.mg⟩) (so : SubOk G.T sub) (h : HdsD sub G X hds cl) : ∃ l, HdsA X hds l ∧ ∀ (D' : Ends) (c : Str) (fs : List (Str × V)) (ρ : Rho) (cv : Value) (x : Option Addr) (σ : L2.St) (F B H : Hp),
    RelS G ρ F B σ H → ExcAt G.T c fs cv x H → kS G W D' (handle sub c fs ρ cl) → wManyA X.K W D' l cv x σ H := by
  induction h with
  | nil => exact ⟨[], .nil, fun D' c fs ρ cv x σ F B H rel ea k => k cv x σ F B H rel ea⟩
  | @cons x f b₀ suite np pos' hds l Kx hm hg hdb hsu r ih =>
    obtain ⟨l', hA, run⟩ := ih
    refine ⟨(.ref Kx, none, fun a cls d => fun D σ H => ∃ fs G' C, cls = .ref C ∧ (∃ c, X.mg c = some (.ref C) ∧ sub c x = some true) ∧ G'.T = G.T ∧ G'.pin = G.pin ∧ XdAt G' fs d ∧ tS G' W0 (f fs) D σ H) :: l', .cons ⟨hg, hdb, .inl hm⟩ (fun a oe cls d pn hz hf => ⟨fun pins s σ H D I ⟨fs, G', C, e1, e5, e2, e3, e4, q⟩ => ?_⟩) hA, fun D' c fs ρ cv x' σ F B H rel ea k => ?_⟩
    · subst e1
      exact (hsu fs G' C a oe d pn e2 e3 e4 hz hf e5).run pins s σ H D I q
    · have ea' := ea
      obtain ⟨C, gC, rfl, _⟩ := ea
      have k : kS G W D' (match sub c x with | some true => if slotOk ρ none then behindA none (f fs (rhoA ρ none)) else .stuck | some false => handle sub c fs ρ l | none => .stuck) := k
      cases z : sub c x with
      | none => rw [z] at k; exact k.elim
      | some b =>
        rw [z] at k
        obtain ⟨C', K', g1, g2, g3⟩ := so c x b z
        have g2' : X.mg x = some (.ref K') := by rw [hT] at g2; exact g2
        rw [hm] at g2'
        cases g2'
        rw [gC] at g1
        cases g1
        rw [hT] at g3
        refine ⟨b, g3, fun eb a na => ?_, fun eb => ?_⟩
        · subst eb
          have k : kS G W D' (behindA none (f fs ρ)) := k
          obtain ⟨B2, s1, s2, s3, s4, s5⟩ := suite_gam rel ea'
          obtain ⟨fp, sl, nd⟩ := rel.slots
          refine ⟨fs, ⟨G.T, B2, F, G.pin⟩, C, rfl, ⟨c, by rw [hT] at gC; exact gC, z⟩, rfl, rfl, s5 _, ρ, F, B2, ⟨⟨.refl _, s3, s2, .refl _, fun _ _ => rfl⟩, ⟨fp, s4 fp sl, nd⟩, rel.pin⟩, ?_⟩
          have up : ∀ {F' B' H' : Hp}, Base ⟨G.T, B2, F, G.pin⟩ F' B' H' → Base G F' B' H' := fun b => ⟨rel.base.f0.trans b.f0, b.fb, b.bh, (rel.base.h0.trans s1).trans b.h0, fun a n => (b.of0 a (Same.there (rel.base.h0.trans s1) n)).trans (rel.base.of0 a n)⟩
          cases y : f fs ρ with
          | next ρ1 => rw [y] at k; exact fun σ F B H r => k σ F B H ⟨up r.base, r.slots, r.pin⟩
          | ret d => rw [y] at k; exact fun v F B H p b hd n => k v F B H p (up b) hd n
          | brk _ => rw [y] at k; exact k.elim
          | cnt _ => rw [y] at k; exact k.elim
          | err _ _ _ => rw [y] at k; exact k.elim
          | stuck => rw [y] at k; exact k.elim
        · subst eb
          exact run D' c fs ρ _ x' σ F B H rel ea' k
  | @consA x n i f b₀ suite np pos' hds l Kx hm hg hdb hi hln hpn hsu r ih =>
    obtain ⟨l', hA, run⟩ := ih
    refine ⟨(.ref Kx, some i, fun a cls d => fun D σ H => ∃ fs G' C, cls = .ref C ∧ (∃ c, X.mg c = some (.ref C) ∧ sub c x = some true) ∧ G'.T = G.T ∧ G'.pin = [(i, a)] ∧ XdAt G' fs d ∧ tS G' W0 (f fs) D σ H) :: l', .consA ⟨hg, hdb, .inl hm⟩ hi hln (fun a oe cls d pn hz hf => ⟨fun pins s σ H D I ⟨fs, G', C, e1, e5, e2, e3, e4, q⟩ => ?_⟩) hA, fun D' c fs ρ cv x' σ F B H rel ea k => ?_⟩
    · subst e1
      exact (hsu fs G' C a oe d pn e2 e3 e4 hz hf e5).run pins s σ H D I q
    · have ea' := ea
      obtain ⟨C, gC, rfl, _⟩ := ea
      have k : kS G W D' (match sub c x with | some true => if slotOk ρ (some i) then behindA (some i) (f fs (rhoA ρ (some i))) else .stuck | some false => handle sub c fs ρ l | none => .stuck) := k
      cases z : sub c x with
      | none => rw [z] at k; exact k.elim
      | some b =>
        rw [z] at k
        obtain ⟨C', K', g1, g2, g3⟩ := so c x b z
        have g2' : X.mg x = some (.ref K') := by rw [hT] at g2; exact g2
        rw [hm] at g2'
        cases g2'
        rw [gC] at g1
        cases g1
        rw [hT] at g3
        refine ⟨b, g3, fun eb a na => ?_, fun eb => ?_⟩
        · subst eb
          have k : kS G W D' (if decide (i < ρ.length) = true then behindA (some i) (f fs (ρ.set i none)) else .stuck) := k
          by_cases hil : i < ρ.length
          · rw [if_pos (decide_eq_true hil)] at k
            obtain ⟨B2, s1, s2, s3, s4, s5⟩ := suite_gam rel ea'
            obtain ⟨fp, sl, nd⟩ := rel.slots
            obtain ⟨fp2, sl2, nd2, _⟩ := (s4 fp sl).forget i (some (.ref a)) nd
            refine ⟨fs, ⟨G.T, B2, F, [(i, a)]⟩, C, rfl, ⟨c, by rw [hT] at gC; exact gC, z⟩, rfl, rfl, s5 _, ρ.set i none, F, B2, ⟨⟨.refl _, s3, s2, .refl _, fun _ _ => rfl⟩, ⟨fp2, sl2, nd2⟩, ?_⟩, ?_⟩
            · exact ⟨List.getElem?_set_self (by rw [sl.length]; exact hil), trivial⟩
            · have up : ∀ {F' B' H' : Hp}, Base ⟨G.T, B2, F, [(i, a)]⟩ F' B' H' → Base G F' B' H' := fun b => ⟨rel.base.f0.trans b.f0, b.fb, b.bh, (rel.base.h0.trans s1).trans b.h0, fun a n => (b.of0 a (Same.there (rel.base.h0.trans s1) n)).trans (rel.base.of0 a n)⟩
              cases y : f fs (ρ.set i none) with
              | next ρ1 =>
                rw [y] at k
                intro σ F B H r
                obtain ⟨fp3, sl3, nd3⟩ := r.slots
                obtain ⟨fp4, sl4, nd4, _⟩ := sl3.forget i none nd3
                exact k _ F B H ⟨up r.base, ⟨fp4, sl4, nd4⟩, by unfold Pinned; rw [hpn]; trivial⟩
              | ret d => rw [y] at k; exact fun v F B H p b hd n => k v F B H p (up b) hd n
              | brk _ => rw [y] at k; exact k.elim
              | cnt _ => rw [y] at k; exact k.elim
              | err _ _ _ => rw [y] at k; exact k.elim
              | stuck => rw [y] at k; exact k.elim
          · rw [if_neg (by simpa using hil)] at k; exact k.elim
        · subst eb
          exact run D' c fs ρ _ x' σ F B H rel ea' k
theorem ss_try {cl : List ClD} (hs : X.stack = X.env :: X.outer) (hf : X.env.frame = some X.env.locals) (hN : X.N.Nodup) (hT : G.T = ⟨X.K, X.mg⟩) (tk : Takes X W) (so : SubOk G.T sub)
    (hb : ∀ (W' : WX) (pn : List (Addr × Obj)) (xe : Value → Shared → Prop), Takes (X.tr pn xe) W' → PassesOwn (model X.prog X.w) X.A X.env xe → SB G (X.tr pn xe) W' body f)
    (hh : HdsD sub G X (h₀ :: hds) cl) : SS G X W (.Try body (h₀ :: hds) [] [] pos) (sTry sub f cl) := by
  obtain ⟨l, hA, run⟩ := hds_run (W := W) hT so hh
  refine ps_pre (ps_try_A hs hf hN tk hb hA) fun D' σ H ⟨ρ, F, B, rel, k⟩ => ⟨ρ, F, B, rel, ?_⟩
  unfold sTry at k
  cases z : f ρ with
  | err c fs ρ' =>
    rw [z] at k
    exact fun cv x σ F B H r ea => run D' c fs ρ' cv x σ F B H r ea k
  | next ρ' => rw [z] at k; exact k
  | ret d => rw [z] at k; exact k
  | brk ρ' => rw [z] at k; exact k
  | cnt ρ' => rw [z] at k; exact k
  | stuck => rw [z] at k; exact k
/-- e.f in a suite -/
def vD : V → Res D
  | .non => .ok .non
  | .bl b => .ok (.bl b)
  | .int i => .ok (.int i)
  | .str x => .ok (.str x)
  | _ => .stuck
def xfR (o : Option V) : Res D := match o with
  | some v => vD v
  | none => .stuck
def eXf (fs : List (Str × V)) (f : Str) : Rho → Res D := fun _ => xfR (fs.lookup f)
theorem ev_xf {C a : Addr} {oe : Obj} {d : Option Addr} {pn : List (Addr × Obj)} {i : Nat} {x n : Str} {fs : List (Str × V)} {p1 : Pos} (T : XfC X.K C) (hno : PySem.W.findIn X.K (.ref C) n = some none) (hz : Zc (.ref C) d oe) (hf : ∃ vs, oe.data = .fields vs) (hp : G.pin = [(i, a)]) (hx : XdAt G fs d)
    (hi : X.N[i]? = some x := by rfl) (hv : Vis X.env.scope x := by first | exact Or.inl rfl | exact Or.inr (Or.inl rfl) | exact Or.inr (Or.inr rfl)) (hd : (x == ("__debug__" : Str)) = false := by decide)
    (hcd : (x == ("__classdict__" : Str)) = false := by decide) (hb : attributeBase (.Name x p1) n X.env (eval (.Name x p1) X.env) = eval (.Name x p1) X.env := by rfl) : EV G (X.suite a ((a, oe) :: pn)) W (.Attribute (.Name x p1) n pos) (eXf fs n) :=
  pe_pre (pe_xf T hno hz hf (pe_var (X := X.suite a ((a, oe) :: pn)) hi hv hd hcd) hb) fun σ H Q ⟨ρ, F, B, rel, k⟩ => by
    have pn := rel.pin
    unfold Pinned at pn
    rw [hp] at pn
    replace pn := pn.1
    unfold eXf xfR at k
    cases z : fs.lookup n with
    | none => rw [z] at k; exact k.elim
    | some v =>
      rw [z] at k
      cases fs with
      | nil => cases z
      | cons f r =>
        obtain ⟨dd, rfl, hh⟩ := hx
        refine ⟨.ref a, pn, rfl, rfl, dd, f :: r, v, rfl, hh H (rel.base.h0.trans rel.base.bh), z, ?_⟩
        have k : kE G.T W σ F B H (vD v) _ := k
        cases v <;> first | exact k.elim | skip
        all_goals exact kE.ok (G := G) (W := W) (σ := σ) rel.base.fb rel.base.bh k _ [] (by constructor) List.nodup_nil fun _ z => nomatch z
end
end DH
namespace DH
open PySem L2
section
variable {G : Gam} {W : WX} {X : L2.Cx} {F B H : Hp} {σ : L2.St} {ρ : Rho} {a e : Expr} {fa : Rho → Res D} {pos p kp p2 : Pos}
def negD : D → Res D
  | .int i => .ok (.int (-i))
  | _ => .stuck
theorem ev_neg (h : EB G X W a fa) : EV G X W (.UnaryOp .USub a pos) (eU1 negD fa) :=
  pe_pre (pe_un un_neg h) fun σ H Q ⟨ρ, F, B, rel, k⟩ => ⟨ρ, F, B, rel, (kE.bind k).mono fun d F1 B1 H1 x1 k1 v p hd => by
    cases d <;> first | exact k1.elim | skip
    cases hd
    exact ⟨_, rfl, kE.ok x1.fb x1.bh k1 _ [] (.int _) List.nodup_nil fun _ z => nomatch z⟩⟩
theorem ev_not (hK : X.K = G.K) (h : EB G X W a fa) : EV G X W (.UnaryOp .Not a pos) (eNot fa) :=
  pe_pre (pe_notT h) fun σ H Q ⟨ρ, F, B, rel, k⟩ => ⟨ρ, F, B, rel, (kE.bind k).mono fun d F1 B1 H1 x1 k1 v p hd => by
    have k2 := kE.bind k1
    cases z : truthD d with
    | ok t =>
      rw [z] at k2
      exact ⟨t, by rw [hK]; exact hd.tru (rel.base.ext x1) z, kE.ok x1.fb x1.bh (kE.ok x1.fb x1.bh k2) _ [] (.bl _) List.nodup_nil fun _ z => nomatch z⟩
    | err c fs => exact absurd z truthD_ne
    | stuck => rw [z] at k2; exact k2.elim⟩
def eSortB (b : Bool) (f : Rho → Res D) : Rho → Res D := fun ρ => (f ρ).bind fun d => if b then sortRevD [d] else sortD [d]
theorem sorted_uniq_ge : ∀ {xs ys : List Int}, xs.Pairwise (· ≥ ·) → ys.Pairwise (· ≥ ·) → xs.Perm ys → xs = ys := fun {xs ys} h1 h2 p => by
  have e := sorted_uniq (xs := xs.reverse) (ys := ys.reverse) (List.pairwise_reverse.mpr h1) (List.pairwise_reverse.mpr h2) ((List.reverse_perm xs).trans (p.trans (List.reverse_perm ys).symm))
  exact List.reverse_inj.mp e
theorem ev_sortB (b : Bool) {j : Nat} (hK : X.K = G.K) (hm : X.mg "sorted" = none) (h : EB G X W e fa) (hg : Gl X "sorted" := by rfl)
    (hs : starEach (e :: []) X.env = (false, eval e X.env) :: starEach [] X.env := by rfl)
    (he : backTo pos (starEach (e :: []) X.env) = (false, eval e X.env) :: backTo pos (starEach [] X.env) := by rfl) (hpl : (backTo pos (starEach (e :: []) X.env)).any (·.1) = false := by rfl)
    (hall : (backToKw pos (keywordEach [⟨some "reverse", .Constant (.bool b) j p2, kp⟩] X.env)).all (·.1.isSome) = true := by rfl) (hnone : (backToKw pos (keywordEach [⟨some "reverse", .Constant (.bool b) j p2, kp⟩] X.env)).any (·.1.isNone) = false := by rfl)
    (hks : (backToKw pos (keywordEach [⟨some "reverse", .Constant (.bool b) j p2, kp⟩] X.env)).filterMap (·.1) = [Str.ofString "reverse"] := by rfl) :
    EV G X W (.Call (.Name "sorted" p) [e] [⟨some "reverse", .Constant (.bool b) j p2, kp⟩] pos) (eSortB b fa) :=
  pe_pre (pe_callBK (cr_sortedRev (b := b)) hg hm PyProof.Rows.boot_sorted (pa_cons h pa_nil hs) (pk_cons pe_bl pk_nil) (by decide) (by decide) he hpl hall hnone hks) fun σ H Q ⟨ρ, F, B, rel, k⟩ =>
    ⟨ρ, F, B, rel, (kE.bind k).mono fun d F1 B1 H1 x1 k1 v p hd => by
      have b1 := rel.base.ext x1
      cases b with
      | false =>
        replace k1 : kE G.T W σ F1 B1 H1 (sortD [d]) _ := k1
        cases d <;> first | exact k1.elim | skip
        rename_i l xs
        have k1 : kE G.T W σ F1 B1 H1 (sortR (toInts xs)) _ := k1
        cases z : toInts xs with
        | none => rw [z] at k1; exact k1.elim
        | some ns =>
          rw [z] at k1
          obtain ⟨a, e1, sq⟩ := Dats.lists b1 (.cons hd .nil) z
          cases e1
          refine ⟨a, ns, rfl, rfl, by rw [hK]; exact sq, fun ns' p pm so np => ?_⟩
          rw [sorted_uniq so (sortI_sorted ns) (pm.trans (sortI_perm ns).symm)]
          exact ans_own b1 (Dats.ints _) (retAll_ints _) (fun F' B' H' x v p hd nd new => k1 F' B' H' x v p hd nd fun a m => x1.h.free (new a m)) p np
      | true =>
        replace k1 : kE G.T W σ F1 B1 H1 (sortRevD [d]) _ := k1
        cases d <;> first | exact k1.elim | skip
        rename_i l xs
        have k1 : kE G.T W σ F1 B1 H1 (revR (toInts xs)) _ := k1
        cases z : toInts xs with
        | none => rw [z] at k1; exact k1.elim
        | some ns =>
          rw [z] at k1
          obtain ⟨a, e1, sq⟩ := Dats.lists b1 (.cons hd .nil) z
          cases e1
          refine ⟨a, ns, rfl, rfl, by rw [hK]; exact sq, fun ns' p pm so np => ?_⟩
          rw [sorted_uniq_ge so (show ((sortI ns).reverse).Pairwise (· ≥ ·) from List.pairwise_reverse.mpr (sortI_sorted ns)) (pm.trans ((sortI_perm ns).symm.trans (List.reverse_perm _).symm))]
          exact ans_own b1 (Dats.ints _) (retAll_ints _) (fun F' B' H' x v p hd nd new => k1 F' B' H' x v p hd nd fun a m => x1.h.free (new a m)) p np⟩
end

/-! ### the law itself -/
def spLaw (T : Tx) : Sp := fun vs H Q E => ∃ (a : Addr) (ns : List Int), vs = [.ref a] ∧ SqL T.K H a (ns.map V.int) ∧ ns.length ≤ 63 ∧ ∀ H', Q (.bl true) H'
theorem FnOk.law {P : Program} {w : World} {K : PySem.W.Frag} {mg : Str → Option Value} {base : Heap} {k : Nat} {f : Addr} {fd : FuncData} {ps : List Str} {m : List D → Res D} (h : FnOk P w K mg base (L2.CX P w) k f fd ps (spF ⟨K, mg⟩ 1 m))
    (hm : ∀ ns : List Int, ns.length ≤ 63 → m [.scr ns] = .ok (.bl true)) : FnOk P w K mg base (L2.CX P w) k f fd ps (spLaw ⟨K, mg⟩) := by
  have cv : ∀ vs H Q E, spLaw ⟨K, mg⟩ vs H Q E → spF ⟨K, mg⟩ 1 m vs H Q E := fun vs H Q E ⟨a, ns, e, sq, hl, q⟩ => by
    subst e
    refine ⟨fun _ => none, [.scr ns], (fun _ _ z => nomatch z), .cons (p := []) (q := []) (.scr sq) .nil, rfl, ?_⟩
    rw [hm ns hl]
    intro v F' H' p _ _ _ _ hd _ _
    cases hd
    exact q H'
  exact h.imp cv
end DH
/-! Short forms: built-ins, classes, own errors, as a def's derivation asks for them. -/
namespace DH
open PySem L2
section
variable {G : Gam} {W : WX} {X : L2.Cx} {F B H : Hp} {σ : L2.St} {ρ : Rho} {a e e2 o : Expr} {es : List Expr} {fa fo : Rho → Res D} {fs : Rho → Res (List D)} {pos p kp p2 apos : Pos} {c mn x : Str} {n k : Nat}
theorem c_len (hK : X.K = G.K) (hm : X.mg "len" = none) (ha : EA G X W [e] fs) (hg : Gl X "len" := by rfl) (he : starEach (e :: []) X.env = (false, eval e X.env) :: starEach [] X.env := by rfl) (hpl : (backTo pos (starEach [] X.env)).any (·.1) = false := by rfl) :
    EV G X W (.Call (.Name "len" p) [e] [] pos) (eN lenD fs) := ev_callB (r := rLen G.K) (by rw [← hK]; exact call_len) opn_len hm PySem.boot_len ha hg (by decide) (by decide) he hpl
theorem c_abs (hm : X.mg "abs" = none) (ha : EA G X W [e] fs) (hg : Gl X "abs" := by rfl) (he : starEach (e :: []) X.env = (false, eval e X.env) :: starEach [] X.env := by rfl) (hpl : (backTo pos (starEach [] X.env)).any (·.1) = false := by rfl) :
    EV G X W (.Call (.Name "abs" p) [e] [] pos) (eN absD fs) := ev_callB call_abs opn_abs hm PyProof.Rows.boot_abs ha hg (by decide) (by decide) he hpl
theorem c_max2 (hc : X.calm = true) (hm : X.mg "max" = none) (ha : EA G X W [e, e2] fs) (hg : Gl X "max" := by rfl) (he : starEach (e :: [e2]) X.env = (false, eval e X.env) :: starEach [e2] X.env := by rfl) (hpl : (backTo pos (starEach [e2] X.env)).any (·.1) = false := by rfl) :
    EV G X W (.Call (.Name "max" p) [e, e2] [] pos) (eN max2D fs) := ev_callB (call_max2 hc) opn_max2 hm PyProof.Rows.boot_max ha hg (by decide) (by decide) he hpl
theorem c_min2 (hc : X.calm = true) (hm : X.mg "min" = none) (ha : EA G X W [e, e2] fs) (hg : Gl X "min" := by rfl) (he : starEach (e :: [e2]) X.env = (false, eval e X.env) :: starEach [e2] X.env := by rfl) (hpl : (backTo pos (starEach [e2] X.env)).any (·.1) = false := by rfl) :
    EV G X W (.Call (.Name "min" p) [e, e2] [] pos) (eN min2D fs) := ev_callB (call_min2 hc) opn_min2 hm PyProof.Rows.boot_min ha hg (by decide) (by decide) he hpl
theorem c_max1 (hc : X.calm = true) (hK : X.K = G.K) (hm : X.mg "max" = none) (ha : EA G X W [e] fs) (hg : Gl X "max" := by rfl) (he : starEach (e :: []) X.env = (false, eval e X.env) :: starEach [] X.env := by rfl) (hpl : (backTo pos (starEach [] X.env)).any (·.1) = false := by rfl) :
    EV G X W (.Call (.Name "max" p) [e] [] pos) (eN max1D fs) := ev_callB (r := rMax G.K) (by rw [← hK]; exact cr_max hc) opn_max1 hm PyProof.Rows.boot_max ha hg (by decide) (by decide) he hpl
theorem c_min1 (hc : X.calm = true) (hK : X.K = G.K) (hm : X.mg "min" = none) (ha : EA G X W [e] fs) (hg : Gl X "min" := by rfl) (he : starEach (e :: []) X.env = (false, eval e X.env) :: starEach [] X.env := by rfl) (hpl : (backTo pos (starEach [] X.env)).any (·.1) = false := by rfl) :
    EV G X W (.Call (.Name "min" p) [e] [] pos) (eN min1D fs) := ev_callB (r := rMin G.K) (by rw [← hK]; exact cr_min hc) opn_min1 hm PyProof.Rows.boot_min ha hg (by decide) (by decide) he hpl
theorem c_sum (hc : X.calm = true) (hK : X.K = G.K) (hm : X.mg "sum" = none) (ha : EA G X W [e] fs) (hg : Gl X "sum" := by rfl) (he : starEach (e :: []) X.env = (false, eval e X.env) :: starEach [] X.env := by rfl) (hpl : (backTo pos (starEach [] X.env)).any (·.1) = false := by rfl) :
    EV G X W (.Call (.Name "sum" p) [e] [] pos) (eN sumD fs) := ev_callB (r := rSum G.K) (by rw [← hK]; exact cr_sum hc) opn_sum hm PyProof.Rows.boot_sum ha hg (by decide) (by decide) he hpl
theorem c_sorted (hK : X.K = G.K) (hm : X.mg "sorted" = none) (ha : EA G X W [e] fs) (hg : Gl X "sorted" := by rfl) (he : starEach (e :: []) X.env = (false, eval e X.env) :: starEach [] X.env := by rfl) (hpl : (backTo pos (starEach [] X.env)).any (·.1) = false := by rfl) :
    EV G X W (.Call (.Name "sorted" p) [e] [] pos) (eN sortD fs) := ev_callB (r := rSortedI G.K) (by rw [← hK]; exact cr_sortedI) opn_sorted hm PyProof.Rows.boot_sorted ha hg (by decide) (by decide) he hpl
theorem c_int (hm : X.mg "int" = none) (ha : EA G X W [e] fs) (hg : Gl X "int" := by rfl) (he : starEach (e :: []) X.env = (false, eval e X.env) :: starEach [] X.env := by rfl) (hpl : (backTo pos (starEach [] X.env)).any (·.1) = false := by rfl) :
    EV G X W (.Call (.Name "int" p) [e] [] pos) (eN intD fs) := ev_callTy call_int1 opn_int hm PyProof.Rows.boot_int ha hg (by decide) (by decide) he hpl
theorem c_str (hm : X.mg "str" = none) (ha : EA G X W [e] fs) (hg : Gl X "str" := by rfl) (he : starEach (e :: []) X.env = (false, eval e X.env) :: starEach [] X.env := by rfl) (hpl : (backTo pos (starEach [] X.env)).any (·.1) = false := by rfl) :
    EV G X W (.Call (.Name "str" p) [e] [] pos) (eN strD fs) := ev_callTy call_str_int opn_str hm PyProof.Rows.boot_str ha hg (by decide) (by decide) he hpl
theorem c_list (hK : X.K = G.K) (hm : X.mg "list" = none) (ha : EA G X W [e] fs) (hg : Gl X "list" := by rfl) (he : starEach (e :: []) X.env = (false, eval e X.env) :: starEach [] X.env := by rfl) (hpl : (backTo pos (starEach [] X.env)).any (·.1) = false := by rfl) :
    EV G X W (.Call (.Name "list" p) [e] [] pos) (eN listD fs) := ev_callTy (r := fun xs H Q => ∃ p ys, xs = [.ref p] ∧ (SqL G.K H p ys ∨ SqT G.K H p ys) ∧ ∀ l, H l = none → Q (.ref l) (upd H l (.lst ys))) (by rw [← hK]; exact call_list_of) opn_list hm PyProof.Rows.boot_list ha hg (by decide) (by decide) he hpl
theorem c_tuple (hK : X.K = G.K) (hm : X.mg "tuple" = none) (ha : EA G X W [e] fs) (hg : Gl X "tuple" := by rfl) (he : starEach (e :: []) X.env = (false, eval e X.env) :: starEach [] X.env := by rfl) (hpl : (backTo pos (starEach [] X.env)).any (·.1) = false := by rfl) :
    EV G X W (.Call (.Name "tuple" p) [e] [] pos) (eN tupleD fs) := ev_callTy (r := fun xs H Q => ∃ p ys, xs = [.ref p] ∧ ((SqL G.K H p ys ∧ ∀ l, H l = none → Q (.ref l) (upd H l (.tup ys))) ∨ (SqT G.K H p ys ∧ Q (.ref p) H))) (by rw [← hK]; exact call_tuple_of) opn_tuple hm PyProof.Rows.boot_tuple ha hg (by decide) (by decide) he hpl
/-- a module's whole number, text -/
theorem ev_gi {i : Int} (hm : ∃ t, X.mg x = some (.int i t)) (hg : Gl X x := by rfl) (hd : (x == ("__debug__" : Str)) = false := by decide) : EV G X W (.Name x pos) (eC (.int i)) := by
  obtain ⟨t, h⟩ := hm
  exact ev_glob (v := .int i) h ⟨t, rfl⟩ rfl hg hd
/-- comparisons -/
theorem ev_sub {b : Expr} {fb : Rho → Res D} (ha : EB G X W a fa) (hb : EB G X W b fb) : EV G X W (.BinOp a .Sub b pos) (eB2 subD fa fb) := ev_op op_sub op2_sub ha hb
theorem ev_mul {b : Expr} {fb : Rho → Res D} (ha : EB G X W a fa) (hb : EB G X W b fb) : EV G X W (.BinOp a .Mult b pos) (eB2 mulD fa fb) := ev_op opr_mul op2_mul ha hb
theorem ev_fdiv {b : Expr} {fb : Rho → Res D} (ha : EB G X W a fa) (hb : EB G X W b fb) : EV G X W (.BinOp a .FloorDiv b pos) (eB2 fdivD fa fb) := ev_op op_fdivN op2_fdiv ha hb
theorem ev_mod {b : Expr} {fb : Rho → Res D} (ha : EB G X W a fa) (hb : EB G X W b fb) : EV G X W (.BinOp a .Mod b pos) (eB2 modD fa fb) := ev_op op_modN op2_mod ha hb
theorem ev_pow {b : Expr} {fb : Rho → Res D} (ha : EB G X W a fa) (hb : EB G X W b fb) : EV G X W (.BinOp a .Pow b pos) (eB2 powD fa fb) := ev_op op_pow op2_pow ha hb
end

/-! ### classes of the program -/
structure ClH (K : PySem.W.Frag) (mg : Str → Option Value) (c : Str) (fl : List Str) : Prop where
  ex : ∃ C, mg c = some (.ref C) ∧ Cls K C ∧ ∀ f ∈ fl, NoAttr K C f
structure MeH (P : Program) (w : World) (K : PySem.W.Frag) (mg : Str → Option Value) (base : Heap) (c mn : Str) (n k : Nat) (m : List D → Res D) : Prop where
  ex : ∃ C f fd ps, mg c = some (.ref C) ∧ Cls K C ∧ Meth K C mn f ∧ FnOk P w K mg base (L2.CX P w) k f fd ps (spF ⟨K, mg⟩ n m) ∧ Binds K fd ps []
structure MkH (P : Program) (w : World) (K : PySem.W.Frag) (mg : Str → Option Value) (base : Heap) (c : Str) (n k : Nat) (m : List D → Res (List (Str × D))) : Prop where
  ex : ∃ C f fd ps, mg c = some (.ref C) ∧ Cls K C ∧ Mk K C f ∧ FnOk P w K mg base (L2.CX P w) k f fd ps (spI ⟨K, mg⟩ c n m) ∧ Binds K fd ps []
structure Ex0H (K : PySem.W.Frag) (mg : Str → Option Value) (x : Str) : Prop where
  ex : ∃ C, Ex0 K mg x C
structure ExNH (P : Program) (w : World) (K : PySem.W.Frag) (mg : Str → Option Value) (base : Heap) (x : Str) (fl : List Str) : Prop where
  ex : ∃ C, ExN P w K mg base x C fl
/-- what is asked of the classes that a clause takes, where the suite reads fields -/
structure XfH (K : PySem.W.Frag) (mg : Str → Option Value) (sub : Str → Str → Option Bool) (x : Str) (fl : List Str) : Prop where
  ex : ∀ c C, mg c = some (.ref C) → sub c x = some true → XfC K C ∧ ∀ f ∈ fl, PySem.W.findIn K (.ref C) f = some none
section
variable {G : Gam} {W : WX} {X : L2.Cx} {F B H : Hp} {σ : L2.St} {ρ : Rho} {a e e2 o : Expr} {es : List Expr} {fa fo : Rho → Res D} {fs : Rho → Res (List D)} {pos p kp p2 pos2 apos : Pos} {c mn x : Str} {n k : Nat}
theorem c_meth {pl : Sem Bool} {m : List D → Res D} (M : MeH X.prog X.w X.K X.mg X.base c mn n k m) (hT : G.T = ⟨X.K, X.mg⟩) (hr : Room k X.A) (tk : Takes X W) (ho : EB G X W o fo) (ha : EA G X W (e :: es) fs)
    (hst : starEach (e :: es) X.env = (false, eval e X.env) :: starEach es X.env := by rfl) (hpl : (backTo pos (starEach es X.env)).any (·.1) = false := by rfl)
    (ht : eval (.Call (.Attribute o mn apos) (e :: es) [] pos) X.env = (do
      let ov ← eval o X.env
      standAt apos.atName
      let (f, first) ← holding [ov] (getMethod ov mn pl)
      callWith pos f first (backTo pos (starEach (e :: es) X.env)) (backToKw pos (keywordEach [] X.env))) := by rfl) :
    EV G X W (.Call (.Attribute o mn apos) (e :: es) [] pos) (eMeth c mn n m fo fs) := by
  obtain ⟨C, f, fd, ps, h1, h2, h3, h4, h5⟩ := M.ex
  exact ev_meth h1 h2 h3 h4 h5 hT hr tk ho ha hst hpl ht
theorem c_meth0 {pl : Sem Bool} {m : List D → Res D} (M : MeH X.prog X.w X.K X.mg X.base c mn n k m) (hT : G.T = ⟨X.K, X.mg⟩) (hr : Room k X.A) (tk : Takes X W) (ho : EB G X W o fo)
    (ht : eval (.Call (.Attribute o mn apos) [] [] pos) X.env = (do
      let ov ← eval o X.env
      standAt apos.atName
      let (f, first) ← holding [ov] (getMethod ov mn pl)
      callWith pos f first (backTo pos (starEach [] X.env)) (backToKw pos (keywordEach [] X.env))) := by rfl) :
    EV G X W (.Call (.Attribute o mn apos) [] [] pos) (eMeth c mn n m fo aNil) := by
  obtain ⟨C, f, fd, ps, h1, h2, h3, h4, h5⟩ := M.ex
  exact ev_meth0 h1 h2 h3 h4 h5 hT hr tk ho ht
theorem c_make {m : List D → Res (List (Str × D))} (M : MkH X.prog X.w X.K X.mg X.base c n k m) (hT : G.T = ⟨X.K, X.mg⟩) (hr : Room (k + 1) X.A) (tk : Takes X W) (ha : EA G X W (e :: es) fs) (hg : Gl X c := by rfl) (hdb : (c == ("__debug__" : Str)) = false := by decide)
    (he : starEach (e :: es) X.env = (false, eval e X.env) :: starEach es X.env := by rfl) (hpl : (backTo pos (starEach es X.env)).any (·.1) = false := by rfl) :
    EV G X W (.Call (.Name c p) (e :: es) [] pos) (eMake c n m fs) := by
  obtain ⟨C, f, fd, ps, h1, h2, h3, h4, h5⟩ := M.ex
  exact ev_make h3 h4 h1 h2 h5 hT hr tk ha hg hdb he hpl
theorem s_raise0 {j : Nat} {m : Str} (E : Ex0H X.K X.mg x) (hT : G.T = ⟨X.K, X.mg⟩) (hc : X.calm = true) (tk : Takes X W) (hg : Gl X x := by rfl) (hdb : (x == ("__debug__" : Str)) = false := by decide) :
    SS G X W (.Raise (some (.Call (.Name x p) [.Constant (.str m) j p2] [] pos)) none pos2) (sRaise0 x) := by
  obtain ⟨C, E⟩ := E.ex
  exact ss_raise0 E hT hc tk hg hdb
theorem s_raise {fl : List Str} (E : ExNH X.prog X.w X.K X.mg X.base x fl) (hT : G.T = ⟨X.K, X.mg⟩) (hc : X.calm = true) (hr : Room 2 X.A) (tk : Takes X W) (ha : EA G X W (e :: es) fs) (hg : Gl X x := by rfl) (hdb : (x == ("__debug__" : Str)) = false := by decide)
    (he : starEach (e :: es) X.env = (false, eval e X.env) :: starEach es X.env := by rfl) (hpl : (backTo pos (starEach es X.env)).any (·.1) = false := by rfl) :
    SS G X W (.Raise (some (.Call (.Name x p) (e :: es) [] pos)) none pos2) (sRaise x fl fs) := by
  obtain ⟨C, E⟩ := E.ex
  exact ss_raise E hT hc hr tk ha hg hdb he hpl
theorem s_fld {f : Str} {p1 p2 : Pos} {fl : List Str} {fe : Rho → Res D} (M : ClH G.K G.mg c fl) (hf : f ∈ fl) (hK : X.K = G.K) (he : EV G X W e fe) (hi : X.N[0]? = some x := by rfl) (hv : Vis X.env.scope x := by first | exact Or.inl rfl | exact Or.inr (Or.inl rfl) | exact Or.inr (Or.inr rfl))
    (hd : (x == ("__debug__" : Str)) = false := by decide) (hcd : (x == ("__classdict__" : Str)) = false := by decide) (hs : swapsWith e (some (.Attribute (.Name x p1) f p2)) pos.line X.env = pure false := by rfl) :
    SS G X W (.Assign [.Attribute (.Name x p1) f p2] e pos) (sFld c f fe) := by
  refine ss_fld hK (fun C hC => ?_) he hi hv hd hcd hs
  obtain ⟨C', h1, _, h3⟩ := M.ex
  rw [h1] at hC
  cases hC
  exact h3 f hf
end
/-- a class as a clause names it -/
structure NmH (mg : Str → Option Value) (x : Str) : Prop where
  ex : ∃ C, mg x = some (.ref C)
section
variable {G : Gam} {X : L2.Cx}
theorem hd_nil {sub : Str → Str → Option Bool} : HdsD sub G X [] [] := .nil
theorem hd_cons {sub : Str → Str → Option Bool} {x : Str} {f : List (Str × V) → Rho → Out} {b₀ : Stmt} {suite : List Stmt} {np pos' : Pos} {hds : List ExceptHandler} {l : List ClD} (hm : NmH X.mg x)
      (hsu : ∀ (fs : List (Str × V)) (G' : Gam) (C : Addr) (a : Addr) (oe : Obj) (d : Option Addr) (pn : List (Addr × Obj)), G'.T = G.T → G'.pin = G.pin → XdAt G' fs d → Zc (.ref C) d oe → (∃ vs, oe.data = .fields vs) → (∃ c, X.mg c = some (.ref C) ∧ sub c x = some true) → SB G' (X.suite a ((a, oe) :: pn)) W0 (b₀ :: suite) (f fs)) (r : HdsD sub G X hds l) (hg : Gl X x := by rfl) (hdb : (x == ("__debug__" : Str)) = false := by decide) :
      HdsD sub G X (.ExceptHandler (some (.Name x np)) none (b₀ :: suite) pos' :: hds) (⟨x, none, f⟩ :: l) := by
  obtain ⟨C, h⟩ := hm.ex
  exact .cons h hg hdb hsu r
theorem hd_consA {sub : Str → Str → Option Bool} {x n : Str} (i : Nat) {f : List (Str × V) → Rho → Out} {b₀ : Stmt} {suite : List Stmt} {np pos' : Pos} {hds : List ExceptHandler} {l : List ClD} (hm : NmH X.mg x) (hpn : G.pin = [])
      (hsu : ∀ (fs : List (Str × V)) (G' : Gam) (C : Addr) (a : Addr) (oe : Obj) (d : Option Addr) (pn : List (Addr × Obj)), G'.T = G.T → G'.pin = [(i, a)] → XdAt G' fs d → Zc (.ref C) d oe → (∃ vs, oe.data = .fields vs) → (∃ c, X.mg c = some (.ref C) ∧ sub c x = some true) → SB G' (X.suite a ((a, oe) :: pn)) W0 (b₀ :: suite) (f fs)) (r : HdsD sub G X hds l)
      (hg : Gl X x := by rfl) (hdb : (x == ("__debug__" : Str)) = false := by decide) (hi : X.N[i]? = some n := by rfl) (hln : X.env.kindOf n = some .local := by rfl) :
      HdsD sub G X (.ExceptHandler (some (.Name x np)) (some n) (b₀ :: suite) pos' :: hds) (⟨x, some i, f⟩ :: l) := by
  obtain ⟨C, h⟩ := hm.ex
  exact .consA h hg hdb hi hln hpn hsu r
end
section
variable {G : Gam} {W : WX} {X : L2.Cx} {pos : Pos}
theorem ev_xfH {sub : Str → Str → Option Bool} {y : Str} {fl : List Str} {C a : Addr} {oe : Obj} {d : Option Addr} {pn : List (Addr × Obj)} {i : Nat} {x : Str} {fs : List (Str × V)} {p1 : Pos} (T : XfH X.K X.mg sub y fl) (n : Str) (hn : n ∈ fl) (hz : Zc (.ref C) d oe) (hf : ∃ vs, oe.data = .fields vs) (hp : G.pin = [(i, a)]) (hx : XdAt G fs d)
    (hC : ∃ c, X.mg c = some (.ref C) ∧ sub c y = some true)
    (hi : X.N[i]? = some x := by rfl) (hv : Vis X.env.scope x := by first | exact Or.inl rfl | exact Or.inr (Or.inl rfl) | exact Or.inr (Or.inr rfl)) (hd : (x == ("__debug__" : Str)) = false := by decide)
    (hcd : (x == ("__classdict__" : Str)) = false := by decide) (hb : attributeBase (.Name x p1) n X.env (eval (.Name x p1) X.env) = eval (.Name x p1) X.env := by rfl) : EV G (X.suite a ((a, oe) :: pn)) W (.Attribute (.Name x p1) n pos) (eXf fs n) := by
  obtain ⟨c, h1, h2⟩ := hC
  obtain ⟨h3, h4⟩ := T.ex c C h1 h2
  exact ev_xf h3 (h4 n hn) hz hf hp hx hi hv hd hcd hb
end
end DH
/-! What the top has written, as the end asks for it. -/
namespace DH
open PySem L2
section
variable {P : Program} {w : World} {K : PySem.W.Frag} {mg : Str → Option Value} {base h : Heap} {x c mn qual : Str} {st : Stmt} {f C : Addr} {oc : Value} {od an : Option Addr} {osl : Array (Option Value)} {kV doc pm cdv ct : Value} {n k : Nat} {ps : List Str} {m : List D → Res D}
structure DefH (K : PySem.W.Frag) (mg : Str → Option Value) (x : Str) (st : Stmt) : Prop where
  ex : ∃ f fd, Fun K x x st f fd ∧ mg x = some (.ref f)
theorem def_mk (X : K.In h) (G : h.Ns mainGlobals mg) (a : PySem.W.nsIn K mainGlobals x = some (some (.ref f))) (l : K.lookup f = some ⟨oc, od, .func (PySem.W.fnOf x x (defArgs st) (defBody st) (defScope st) .none kV doc pm an cdv ct), osl⟩)
    (c : PySem.W.codeIn K cdv x = true) (k : PySem.W.keepIn K (.ref f) = true) : DefH K mg x st := ⟨f, _, fun_mk l c k, PySem.W.mg_of X G a⟩
abbrev BindsOf (qx qual : Str) (st : Stmt) (ps : List Str) : Prop := ∀ (kV doc pm : Value) (an : Option Addr) (cdv ct : Value) (us : List Value), us.length = ps.length → bindArgs (PySem.W.fnOf qx qual (defArgs st) (defBody st) (defScope st) .none kV doc pm an cdv ct) ⟨us, []⟩ = pure (ps.zip us)
theorem FnE.of (d : DefH K mg x st) (hb : BindsOf x x st ps) (h : ∀ {f fd}, Fun K x x st f fd → FnOk P w K mg base (L2.CX P w) k f fd ps (spF ⟨K, mg⟩ n m)) : FnE P w K mg base x n k m := by
  obtain ⟨f, fd, F, hm⟩ := d.ex
  exact ⟨f, fd, ps, h F, hm, F.kp, F.binds hb⟩
structure ClsF (K : PySem.W.Frag) (mg : Str → Option Value) (c : Str) (fl : List Str) : Prop extends ClH K mg c fl
/-- a class's methods, its __init__ -/
structure MthH (K : PySem.W.Frag) (mg : Str → Option Value) (c mn qual : Str) (st : Stmt) : Prop where
  ex : ∃ C f fd, mg c = some (.ref C) ∧ Meth K C mn f ∧ Fun K mn qual st f fd
theorem mth_mk (X : K.In h) (G : h.Ns mainGlobals mg) (aC : PySem.W.nsIn K mainGlobals c = some (some (.ref C))) (a : PySem.W.findIn K (.ref C) mn = some (some (.ref f))) (i : PySem.W.isFn K (.ref f) = true)
    (l : K.lookup f = some ⟨oc, od, .func (PySem.W.fnOf mn qual (defArgs st) (defBody st) (defScope st) .none kV doc pm an cdv ct), osl⟩) (cc : PySem.W.codeIn K cdv qual = true) (k : PySem.W.keepIn K (.ref f) = true) : MthH K mg c mn qual st :=
  ⟨C, f, _, PySem.W.mg_of X G aC, ⟨a, i, k⟩, fun_mk l cc k⟩
structure IniH (K : PySem.W.Frag) (mg : Str → Option Value) (c qual : Str) (st : Stmt) : Prop where
  ex : ∃ C f fd, mg c = some (.ref C) ∧ Mk K C f ∧ Fun K "__init__" qual st f fd
theorem ini_mk (X : K.In h) (G : h.Ns mainGlobals mg) (aC : PySem.W.nsIn K mainGlobals c = some (some (.ref C))) (a : PySem.W.findIn K (.ref C) "__init__" = some (some (.ref f))) (i : PySem.W.isFn K (.ref f) = true)
    (l : K.lookup f = some ⟨oc, od, .func (PySem.W.fnOf "__init__" qual (defArgs st) (defBody st) (defScope st) .none kV doc pm an cdv ct), osl⟩) (cc : PySem.W.codeIn K cdv qual = true) (k : PySem.W.keepIn K (.ref f) = true)
    (mk : PySem.W.makesIn K C = true) (kc : PySem.W.keepIn K (.ref C) = true) : IniH K mg c qual st := ⟨C, f, _, PySem.W.mg_of X G aC, ⟨mk, a, i, kc⟩, fun_mk l cc k⟩
theorem cl_mk {fl : List Str} (X : K.In h) (G : h.Ns mainGlobals mg) (aC : PySem.W.nsIn K mainGlobals c = some (some (.ref C))) (pg : PySem.W.plainGet K C Str.empty = true) (hd : PySem.W.hasDictIn K C = true) (po : PySem.W.plainOver K C = true)
    (sa : PySem.W.findIn K (.ref C) "__setattr__" = some (some (.builtin "object.__setattr__"))) (no : ∀ f ∈ fl, PySem.W.findIn K (.ref C) f = some none) : ClH K mg c fl := ⟨C, PySem.W.mg_of X G aC, ⟨pg, hd, po, sa⟩, no⟩
theorem MeH.of {fl : List Str} (cl : ClH K mg c fl) (d : MthH K mg c mn qual st) (hb : BindsOf mn qual st ps) (h : ∀ {f fd}, Fun K mn qual st f fd → FnOk P w K mg base (L2.CX P w) k f fd ps (spF ⟨K, mg⟩ n m)) : MeH P w K mg base c mn n k m := by
  obtain ⟨C, f, fd, h1, h2, F⟩ := d.ex
  obtain ⟨C', g1, g2, _⟩ := cl.ex
  rw [h1] at g1
  cases g1
  exact ⟨C, f, fd, ps, h1, g2, h2, h F, F.binds hb⟩
theorem MkH.of {fl : List Str} {m : List D → Res (List (Str × D))} (cl : ClH K mg c fl) (d : IniH K mg c qual st) (hb : BindsOf "__init__" qual st ps) (h : ∀ {f fd}, Fun K "__init__" qual st f fd → FnOk P w K mg base (L2.CX P w) k f fd ps (spI ⟨K, mg⟩ c n m)) : MkH P w K mg base c n k m := by
  obtain ⟨C, f, fd, h1, h2, F⟩ := d.ex
  obtain ⟨C', g1, g2, _⟩ := cl.ex
  rw [h1] at g1
  cases g1
  exact ⟨C, f, fd, ps, h1, g2, h2, h F, F.binds hb⟩
/-- own exceptions -/
theorem x0_mk (X : K.In h) (G : h.Ns mainGlobals mg) (a : PySem.W.nsIn K mainGlobals x = some (some (.ref C))) (ex : PySem.W.excIn K C veL "ValueError.__new__" = true) (kp : PySem.W.keepIn K (.ref C) = true) (sub : PySem.W.subIn K (.ref C) (.type "BaseException") = some true)
    (ty : PySem.W.typeIn K (.ref C) = some (.type "type")) : Ex0H K mg x := ⟨C, PySem.W.mg_of X G a, ex, kp, sub, ty⟩
theorem nm_mk (X : K.In h) (G : h.Ns mainGlobals mg) (a : PySem.W.nsIn K mainGlobals x = some (some (.ref C))) : NmH mg x := ⟨C, PySem.W.mg_of X G a⟩
theorem none_mk (X : K.In h) (G : h.Ns mainGlobals mg) (a : PySem.W.nsIn K mainGlobals x = some none) : mg x = none := PySem.W.mg_none_of X G a
theorem int_mk {i : Int} {t : Tok} (X : K.In h) (G : h.Ns mainGlobals mg) (a : PySem.W.nsIn K mainGlobals x = some (some (.int i t))) : ∃ t, mg x = some (.int i t) := ⟨t, PySem.W.mg_of X G a⟩
/-- the text of an own exception with an __init__ -/
structure XnT (K : PySem.W.Frag) (mg : Str → Option Value) (x qual : Str) (st : Stmt) (fl : List Str) : Prop where
  ex : ∃ C f fd, mg x = some (.ref C) ∧ OexC K C ∧ (∀ f ∈ fl, PySem.W.findIn K (.ref C) f = some none) ∧ PySem.W.findIn K (.ref C) "__init__" = some (some (.ref f)) ∧ PySem.W.typeIn K (.ref f) = some (.type "function") ∧ Fun K "__init__" qual st f fd
theorem xn_mk {fl : List Str} {nm q : Str} {N : Addr} {bs bm : List Value} {sn : List Str} {sub : List Value} {ab : Bool} {col : Option Bool} {dd : Option Addr} {m0 m1 m2 m3 m5 : Option Value} (X : K.In h) (G : h.Ns mainGlobals mg) (a : PySem.W.nsIn K mainGlobals x = some (some (.ref C)))
    (xL : K.lookup C = some (excClassObj nm q C N bs bm true sn sub ab col dd m0 m1 m2 m3 m5 "ValueError.__new__")) (rb : PySem.HandSPX.refsVE bm = true) (sa : PySem.W.findIn K (.ref C) "__setattr__" = some (some (.builtin "object.__setattr__")))
    (eC : PySem.W.subIn K (.ref C) (.type "BaseException") = some true) (tC : PySem.W.typeIn K (.ref C) = some (.type "type")) (kC : PySem.W.keepIn K (.ref C) = true) (no : ∀ f ∈ fl, PySem.W.findIn K (.ref C) f = some none)
    (a1 : PySem.W.findIn K (.ref C) "__init__" = some (some (.ref f))) (t1 : PySem.W.typeIn K (.ref f) = some (.type "function"))
    (l : K.lookup f = some ⟨oc, od, .func (PySem.W.fnOf "__init__" qual (defArgs st) (defBody st) (defScope st) .none kV doc pm an cdv ct), osl⟩) (cc : PySem.W.codeIn K cdv qual = true) (k : PySem.W.keepIn K (.ref f) = true) : XnT K mg x qual st fl :=
  ⟨C, f, _, PySem.W.mg_of X G a, ⟨⟨nm, q, N, bs, bm, sn, sub, ab, col, dd, m0, m1, m2, m3, m5, xL, rb⟩, sa, eC, tC, kC⟩, no, a1, t1, fun_mk l cc k⟩
theorem ExNH.of {fl : List Str} (d : XnT K mg x qual st fl) (hb : BindsOf "__init__" qual st ps) (h : ∀ {f fd}, Fun K "__init__" qual st f fd → FnOk P w K mg base (L2.CX P w) 1 f fd ps (spX K fl)) : ExNH P w K mg base x fl := by
  obtain ⟨C, f, fd, h1, h2, h3, h4, h5, F⟩ := d.ex
  exact ⟨C, h1, h2, h3, f, fd, ps, h4, h5, h F, F.binds hb⟩
/-- which class a clause takes -/
abbrev Tab := List (Str × Str × Bool)
def tabSub (l : Tab) (c k : Str) : Option Bool := (l.find? fun t => decide (t.1 = c) && decide (t.2.1 = k)).map (·.2.2)
def PairOk (K : PySem.W.Frag) (mg : Str → Option Value) (t : Str × Str × Bool) : Prop := ∃ C D, mg t.1 = some (.ref C) ∧ mg t.2.1 = some (.ref D) ∧ PySem.W.exmOne K (.ref C) (.ref D) = some t.2.2
theorem exm_of {b : Bool} {C D : Addr} (h1 : PySem.W.subIn K (.ref D) (.type "BaseException") = some true) (h2 : PySem.W.isClsIn K D = true) (h3 : PySem.W.typeIn K (.ref D) = some (.type "type")) (h4 : PySem.W.subIn K (.ref C) (.ref D) = some b) :
    PySem.W.exmOne K (.ref C) (.ref D) = some b := by
  have e1 : (PySem.W.subIn K (.ref D) (.type "BaseException") == some true) = true := by rw [h1] <;> rfl
  have e2 : ((PySem.W.clsIn K D).isSome && PySem.W.typeIn K (.ref D) == some (.type "type")) = true := by
    have h2' : (PySem.W.clsIn K D).isSome = true := h2
    rw [h2', h3] <;> rfl
  show (if (PySem.W.subIn K (.ref D) (.type "BaseException") == some true) = true then (if ((PySem.W.clsIn K D).isSome && PySem.W.typeIn K (.ref D) == some (.type "type")) = true then PySem.W.subIn K (.ref C) (.ref D) else none) else none) = some b
  rw [if_pos e1, if_pos e2]
  exact h4
theorem pair_mk {a b : Str} {r : Bool} {C D : Addr} (X : K.In h) (G : h.Ns mainGlobals mg) (aC : PySem.W.nsIn K mainGlobals a = some (some (.ref C))) (aD : PySem.W.nsIn K mainGlobals b = some (some (.ref D)))
    (h1 : PySem.W.subIn K (.ref D) (.type "BaseException") = some true) (h2 : PySem.W.isClsIn K D = true) (h3 : PySem.W.typeIn K (.ref D) = some (.type "type")) (h4 : PySem.W.subIn K (.ref C) (.ref D) = some r) : PairOk K mg (a, b, r) :=
  ⟨C, D, PySem.W.mg_of X G aC, PySem.W.mg_of X G aD, exm_of h1 h2 h3 h4⟩
theorem all_nil {Q : Str × Str × Bool → Prop} : ∀ t ∈ ([] : Tab), Q t := fun _ z => nomatch z
theorem all_cons {Q : Str × Str × Bool → Prop} {t : Str × Str × Bool} {l : Tab} (a : Q t) (b : ∀ t ∈ l, Q t) : ∀ u ∈ t :: l, Q u := fun u z => (List.mem_cons.mp z).elim (fun e => e ▸ a) (b u)
theorem fa_nil {Q : Str → Prop} : ∀ t ∈ ([] : List Str), Q t := fun _ z => nomatch z
theorem fa_cons {Q : Str → Prop} {t : Str} {l : List Str} (a : Q t) (b : ∀ t ∈ l, Q t) : ∀ u ∈ t :: l, Q u := fun u z => (List.mem_cons.mp z).elim (fun e => e ▸ a) (b u)
theorem tab_ok {l : Tab} (h : ∀ t ∈ l, PairOk K mg t) : SubOk ⟨K, mg⟩ (tabSub l) := fun c k b e => by
  unfold tabSub at e
  cases z : l.find? (fun t => decide (t.1 = c) && decide (t.2.1 = k)) with
  | none => rw [z] at e; cases e
  | some t =>
    rw [z] at e
    cases e
    have m := List.mem_of_find?_eq_some z
    have q := List.find?_some z
    simp only [Bool.and_eq_true, decide_eq_true_eq] at q
    obtain ⟨C, D, h1, h2, h3⟩ := h t m
    exact ⟨C, D, by rw [← q.1]; exact h1, by rw [← q.2]; exact h2, h3⟩
/-- the classes that a clause takes have the fields that its suite reads -/
def XfOk (K : PySem.W.Frag) (mg : Str → Option Value) (fl : List Str) (c : Str) : Prop := ∃ C, mg c = some (.ref C) ∧ XfC K C ∧ ∀ f ∈ fl, PySem.W.findIn K (.ref C) f = some none
theorem xfo_mk {fl : List Str} (X : K.In h) (G : h.Ns mainGlobals mg) (a : PySem.W.nsIn K mainGlobals c = some (some (.ref C))) (ga : PySem.W.findIn K (.ref C) "__getattribute__" = some (some (.builtin "BaseException.__getattribute__"))) (gg : PySem.W.findIn K (.ref C) "__getattr__" = some none)
    (eC : PySem.W.subIn K (.ref C) (.type "BaseException") = some true) (hd : PySem.W.hasDictIn K C = true) (no : ∀ f ∈ fl, PySem.W.findIn K (.ref C) f = some none) : XfOk K mg fl c := ⟨C, PySem.W.mg_of X G a, ⟨ga, gg, eC, hd⟩, no⟩
theorem xf_of {fl : List Str} {l : Tab} {y : Str} {cs : List Str} (h : ∀ c ∈ cs, XfOk K mg fl c) (hc : (l.all fun t => !(decide (t.2.1 = y) && t.2.2) || decide (t.1 ∈ cs)) = true) : XfH K mg (tabSub l) y fl := ⟨fun c C hC e => by
  unfold tabSub at e
  cases z : l.find? (fun t => decide (t.1 = c) && decide (t.2.1 = y)) with
  | none => rw [z] at e; cases e
  | some t =>
    rw [z] at e
    have e : some t.2.2 = some true := e
    have e := Option.some.inj e
    have m := List.mem_of_find?_eq_some z
    have q := List.find?_some z
    simp only [Bool.and_eq_true, decide_eq_true_eq] at q
    have w := List.all_eq_true.mp hc t m
    rw [e] at w
    simp only [q.2, decide_true, Bool.and_self, Bool.not_true, Bool.false_or, decide_eq_true_eq] at w
    obtain ⟨C', h1, h2, h3⟩ := h t.1 w
    rw [q.1, hC] at h1
    cases h1
    exact ⟨h2, h3⟩⟩
/-- the law's def -/
theorem law_of {fa : Addr} (d : DefH K mg "law" st) (hfa : mg "law" = some (.ref fa)) (hb : ∀ (s : Shared) (u : Value) (kV doc pm : Value) (an : Option Addr) (cdv ct : Value), BindsTo s (PySem.W.fnOf "law" "law" (defArgs st) (defBody st) (defScope st) .none kV doc pm an cdv ct) ⟨[u], []⟩ [("script", u)])
    (hm : ∀ ns : List Int, ns.length ≤ 63 → m [.scr ns] = .ok (.bl true)) (h : ∀ base : Heap, K.In base → base.Ns mainGlobals mg → ∀ {f fd}, Fun K "law" "law" st f fd → FnOk P w K mg base (L2.CX P w) k f fd ["script"] (spF ⟨K, mg⟩ 1 m)) :
    ∃ fd : FuncData, (∀ (s : Shared) (u : Value), BindsTo s fd ⟨[u], []⟩ [("script", u)]) ∧ ∀ base : Heap, K.In base → base.Ns mainGlobals mg → FnOk P w K mg base (L2.CX P w) k fa fd ["script"] (spLaw ⟨K, mg⟩) := by
  obtain ⟨f, fd, F, hf⟩ := d.ex
  rw [hfa] at hf
  cases hf
  refine ⟨fd, fun s u => ?_, fun base h1 h2 => DH.FnOk.law (h base h1 h2 F) hm⟩
  obtain ⟨oc, od, kV, doc, pm, an, cdv, ct, osl, rfl, _, _⟩ := F.ex
  exact hb s u kV doc pm an cdv ct
end
section
open PySem.Spec PyProof.Rows
/-- the law's walk -/
theorem walk_law {k : Nat} {l : PySem.W.OpenLaw} {q : Program} {loose : List Str} {XP : (Str → Option Value) → Heap → Prop} {YP : World → Heap → Prop} {d : DefRec} {K : Params → PySem.W.Frag} (hn : l.most = some 63) (hdf : d.params.defaults = []) (hr : Room k callerA)
    (hY : ∀ (w : World) (h : Heap), YP w h → (K w.params).In h)
    (F : ∀ (w : World) (mg : Str → Option Value) (fa : Addr) (h : Heap), (K w.params).In h → h.Ns mainGlobals mg → mg d.name = some (.ref fa) →
      ∃ fd : FuncData, (∀ (s : Shared) (u : Value), BindsTo s fd ⟨[u], []⟩ [("script", u)]) ∧ ∀ base : Heap, (K w.params).In base → base.Ns mainGlobals mg → FnOk l.prog w (K w.params) mg base (L2.CX l.prog w) k fa fd ["script"] (spLaw ⟨K w.params, mg⟩)) :
    PySem.W.WalkO q loose XP YP l.row.toRowW d [] (fun f vs => PySem.call f vs) :=
  L2.walk_of (n := 63) (k := k) (x := "script") (CX := fun w => L2.CX l.prog w) (sp := fun w vs H Q E => ∃ (a : Addr) (ns : List Int), vs = [.ref a] ∧ SqL (K w.params) H a (ns.map V.int) ∧ ns.length ≤ 63 ∧ ∀ H', Q (.bl true) H') hn (by decide) hdf hr hY F (fun _ _ a ns hl _ hS => ⟨a, ns, rfl, hS, hl, fun _ => rfl⟩) fun _ _ _ _ _ ⟨_, _, _, _, _, _, _, _, _, _, _, _, z⟩ => z
end
end DH
/-! Evaluation of mirrors: equations for simp. -/
namespace DH
open PySem L2
/-- an equation that simp takes with its proof -/
theorem ndq {α : Sort _} {a b : α} (h : a = b) : a = b := h
section
variable {α β γ : Type} {ρ ρ' : Rho} {i j : Int} {d e : D} {xs ys : List D} {k l : LK} {x y : Str} {b c : Bool} {F F' : Rho → Out} {f f' f2 f3 : Rho → Res D} {fs : Rho → Res (List D)} {t t' : Rho → Res Bool} {n : Nat} {cl : Str} {fv : List (Str × V)}
@[simp] theorem rb_ok (a : α) (g : α → Res β) : (Res.ok a).bind g = g a := ndq rfl
@[simp] theorem rb_err (c : Str) (fs : List (Str × V)) (g : α → Res β) : (Res.err c fs : Res α).bind g = .err c fs := ndq rfl
@[simp] theorem rb_stuck (g : α → Res β) : (Res.stuck : Res α).bind g = .stuck := ndq rfl
@[simp] theorem rb_ite (p : Prop) [Decidable p] (a a' : Res α) (g : α → Res β) : (if p then a else a').bind g = if p then a.bind g else a'.bind g := by split <;> rfl
def oGet : Option (Option D) → Res D
  | some (some d) => .ok d
  | _ => .stuck
@[simp] theorem oGet_some : oGet (some (some d)) = .ok d := ndq rfl
@[simp] theorem eVar_eq (i : Nat) : eVar i ρ = oGet ρ[i]? := by unfold eVar oGet; rfl
@[simp] theorem eC_eq : eC d ρ = .ok d := ndq rfl
@[simp] theorem eB2_eq {g : D → D → Res D} : eB2 g f f' ρ = (f ρ).bind fun x => (f' ρ).bind fun y => g x y := ndq rfl
@[simp] theorem eU1_eq {g : D → Res D} : eU1 g f ρ = (f ρ).bind g := ndq rfl
@[simp] theorem aNil_eq : aNil ρ = .ok [] := ndq rfl
@[simp] theorem aCons_eq : aCons f fs ρ = (f ρ).bind fun d => (fs ρ).bind fun ds => .ok (d :: ds) := ndq rfl
@[simp] theorem eN_eq {g : List D → Res D} : eN g fs ρ = (fs ρ).bind g := ndq rfl
/-- to be held, to be handed back, to be frozen -/
def dupK (d : D) : Res D := if d.dup = true then .ok d else .stuck
@[simp] theorem eDup_eq : eDup f ρ = (f ρ).bind dupK := ndq rfl
@[simp] theorem dupK_int : dupK (.int i) = .ok (.int i) := ndq rfl
@[simp] theorem dupK_bl : dupK (.bl b) = .ok (.bl b) := ndq rfl
@[simp] theorem dupK_str : dupK (.str x) = .ok (.str x) := ndq rfl
@[simp] theorem dupK_non : dupK .non = .ok .non := ndq rfl
@[simp] theorem dupK_frz : dupK (.lst .frz xs) = .ok (.lst .frz xs) := ndq rfl
@[simp] theorem dupK_bor : dupK (.lst .bor xs) = .ok (.lst .bor xs) := ndq rfl
@[simp] theorem dupK_ins {c : Str} {fl : List (Str × D)} : dupK (.ins c fl) = .ok (.ins c fl) := ndq rfl
theorem dupK_of (h : d.dup = true) : dupK d = .ok d := if_pos h
@[simp] theorem dupK_tup : dupK (.tup xs) = if D.dupAll xs = true then .ok (.tup xs) else .stuck := ndq rfl
def frzK (d : D) : Res D := if d.ret = true then .ok d.frz else .stuck
@[simp] theorem eFrz_eq : eFrz f ρ = (f ρ).bind frzK := ndq rfl
theorem frzK_of (h : d.ret = true) : frzK d = .ok d.frz := if_pos h
@[simp] theorem frzK_own : frzK (.lst .own xs) = .ok (.lst .frz (D.frzAll xs)) := ndq rfl
@[simp] theorem frzK_frz : frzK (.lst .frz xs) = .ok (.lst .frz xs) := ndq rfl
@[simp] theorem frzK_int : frzK (.int i) = .ok (.int i) := ndq rfl
@[simp] theorem frzK_str : frzK (.str x) = .ok (.str x) := ndq rfl
/-! flags -/
@[simp] theorem dup_int : D.dup (.int i) = true := ndq rfl
@[simp] theorem dup_str : D.dup (.str x) = true := ndq rfl
@[simp] theorem dup_bl : D.dup (.bl b) = true := ndq rfl
@[simp] theorem dup_non : D.dup .non = true := ndq rfl
@[simp] theorem dup_frz : D.dup (.lst .frz xs) = true := ndq rfl
@[simp] theorem dup_bor : D.dup (.lst .bor xs) = true := ndq rfl
@[simp] theorem dup_own : D.dup (.lst .own xs) = false := ndq rfl
@[simp] theorem dup_tup : D.dup (.tup xs) = D.dupAll xs := ndq rfl
@[simp] theorem dup_ins {c : Str} {fl : List (Str × D)} : D.dup (.ins c fl) = true := ndq rfl
@[simp] theorem dup_scr {ns : List Int} : D.dup (.scr ns) = true := ndq rfl
@[simp] theorem dupAll_nil : D.dupAll [] = true := ndq rfl
@[simp] theorem dupAll_cons : D.dupAll (d :: xs) = (d.dup && D.dupAll xs) := ndq rfl
@[simp] theorem ret_int : D.ret (.int i) = true := ndq rfl
@[simp] theorem ret_str : D.ret (.str x) = true := ndq rfl
@[simp] theorem ret_bl : D.ret (.bl b) = true := ndq rfl
@[simp] theorem ret_non : D.ret .non = true := ndq rfl
@[simp] theorem ret_frz : D.ret (.lst .frz xs) = true := ndq rfl
@[simp] theorem ret_bor : D.ret (.lst .bor xs) = false := ndq rfl
@[simp] theorem ret_own : D.ret (.lst .own xs) = true := ndq rfl
@[simp] theorem ret_tup : D.ret (.tup xs) = D.retAll xs := ndq rfl
@[simp] theorem ret_ins {c : Str} {fl : List (Str × D)} : D.ret (.ins c fl) = true := ndq rfl
@[simp] theorem retAll_nil : D.retAll [] = true := ndq rfl
@[simp] theorem retAll_cons : D.retAll (d :: xs) = (d.ret && D.retAll xs) := ndq rfl
@[simp] theorem dupAll_app : D.dupAll (xs ++ ys) = (D.dupAll xs && D.dupAll ys) := dupAll_append xs ys
@[simp] theorem retAll_app : D.retAll (xs ++ ys) = (D.retAll xs && D.retAll ys) := retAll_append xs ys
@[simp] theorem len_int : D.len (.int i) = true := ndq rfl
@[simp] theorem len_str : D.len (.str x) = true := ndq rfl
@[simp] theorem len_bl : D.len (.bl b) = true := ndq rfl
@[simp] theorem len_non : D.len .non = true := ndq rfl
@[simp] theorem len_own : D.len (.lst .own xs) = true := ndq rfl
@[simp] theorem len_frz : D.len (.lst .frz xs) = true := ndq rfl
@[simp] theorem len_bor : D.len (.lst .bor xs) = true := ndq rfl
@[simp] theorem len_tmp : D.len (.lst .tmp xs) = D.lenAll xs := ndq rfl
@[simp] theorem len_tup : D.len (.tup xs) = D.lenAll xs := ndq rfl
@[simp] theorem len_ins {c : Str} {fl : List (Str × D)} : D.len (.ins c fl) = true := ndq rfl
@[simp] theorem len_scr {ns : List Int} : D.len (.scr ns) = true := ndq rfl
@[simp] theorem lenAll_nil : D.lenAll [] = true := ndq rfl
@[simp] theorem lenAll_cons : D.lenAll (d :: xs) = (d.len && D.lenAll xs) := ndq rfl
@[simp] theorem lend_int : D.lend (.int i) = .int i := ndq rfl
@[simp] theorem lend_str : D.lend (.str x) = .str x := ndq rfl
@[simp] theorem lend_bl : D.lend (.bl b) = .bl b := ndq rfl
@[simp] theorem lend_non : D.lend .non = .non := ndq rfl
@[simp] theorem lend_own : D.lend (.lst .own xs) = .lst .bor (D.lendAll xs) := ndq rfl
@[simp] theorem lend_tmp : D.lend (.lst .tmp xs) = .lst .bor (D.lendAll xs) := ndq rfl
@[simp] theorem lend_frz : D.lend (.lst .frz xs) = .lst .frz xs := ndq rfl
@[simp] theorem lend_bor : D.lend (.lst .bor xs) = .lst .bor xs := ndq rfl
@[simp] theorem lend_tup : D.lend (.tup xs) = .tup (D.lendAll xs) := ndq rfl
@[simp] theorem lend_ins {c : Str} {fl : List (Str × D)} : D.lend (.ins c fl) = .ins c fl := ndq rfl
@[simp] theorem lend_scr {ns : List Int} : D.lend (.scr ns) = .scr ns := ndq rfl
@[simp] theorem lendAll_nil : D.lendAll [] = [] := ndq rfl
@[simp] theorem lendAll_cons : D.lendAll (d :: xs) = d.lend :: D.lendAll xs := ndq rfl
@[simp] theorem frz_int : D.frz (.int i) = .int i := ndq rfl
@[simp] theorem frz_str : D.frz (.str x) = .str x := ndq rfl
@[simp] theorem frz_own : D.frz (.lst .own xs) = .lst .frz (D.frzAll xs) := ndq rfl
@[simp] theorem frz_frz : D.frz (.lst .frz xs) = .lst .frz xs := ndq rfl
@[simp] theorem frz_tup : D.frz (.tup xs) = .tup (D.frzAll xs) := ndq rfl
@[simp] theorem frzAll_nil : D.frzAll [] = [] := ndq rfl
@[simp] theorem frzAll_cons : D.frzAll (d :: xs) = d.frz :: D.frzAll xs := ndq rfl
mutual
theorem lend_dup : ∀ {d : D}, d.dup = true → d.lend = d
  | .non, _ => rfl | .bl _, _ => rfl | .int _, _ => rfl | .str _, _ => rfl | .ins _ _, _ => rfl | .scr _, _ => rfl | .obj _ _, _ => rfl
  | .lst .own _, h => nomatch h
  | .lst .tmp _, h => nomatch h
  | .lst .frz _, _ => rfl
  | .lst .bor _, _ => rfl
  | .tup xs, h => congrArg D.tup (lendAll_dup (xs := xs) h)
theorem lendAll_dup : ∀ {xs : List D}, D.dupAll xs = true → D.lendAll xs = xs
  | [], _ => rfl
  | x :: xs, h => by
    obtain ⟨h1, h2⟩ := Bool.and_eq_true_iff.mp h
    show x.lend :: D.lendAll xs = x :: xs
    rw [lend_dup h1, lendAll_dup h2]
end
mutual
theorem frz_dup : ∀ {d : D}, d.dup = true → d.frz = d
  | .non, _ => rfl | .bl _, _ => rfl | .int _, _ => rfl | .str _, _ => rfl | .ins _ _, _ => rfl | .scr _, _ => rfl | .obj _ _, _ => rfl
  | .lst .own _, h => nomatch h
  | .lst .tmp _, h => nomatch h
  | .lst .frz _, _ => rfl
  | .lst .bor _, _ => rfl
  | .tup xs, h => congrArg D.tup (frzAll_dup (xs := xs) h)
theorem frzAll_dup : ∀ {xs : List D}, D.dupAll xs = true → D.frzAll xs = xs
  | [], _ => rfl
  | x :: xs, h => by
    obtain ⟨h1, h2⟩ := Bool.and_eq_true_iff.mp h
    show x.frz :: D.frzAll xs = x :: xs
    rw [frz_dup h1, frzAll_dup h2]
end
mutual
theorem len_dup : ∀ {d : D}, d.dup = true → d.len = true
  | .non, _ => rfl | .bl _, _ => rfl | .int _, _ => rfl | .str _, _ => rfl | .ins _ _, _ => rfl | .scr _, _ => rfl | .obj _ _, h => nomatch h
  | .lst .own _, h => nomatch h
  | .lst .tmp _, h => nomatch h
  | .lst .frz _, _ => rfl
  | .lst .bor _, _ => rfl
  | .tup xs, h => lenAll_dup (xs := xs) h
theorem lenAll_dup : ∀ {xs : List D}, D.dupAll xs = true → D.lenAll xs = true
  | [], _ => rfl
  | x :: xs, h => by
    obtain ⟨h1, h2⟩ := Bool.and_eq_true_iff.mp h
    show (x.len && D.lenAll xs) = true
    rw [len_dup h1, lenAll_dup h2]; rfl
end
/-! encoded lists -/
theorem dupAll_map {q : α → D} (h : ∀ a, (q a).dup = true) (as : List α) : D.dupAll (as.map q) = true := by
  induction as with
  | nil => rfl
  | cons a as ih => show ((q a).dup && D.dupAll (as.map q)) = true; rw [h, ih]; rfl
theorem retAll_map {q : α → D} (h : ∀ a, (q a).ret = true) (as : List α) : D.retAll (as.map q) = true := by
  induction as with
  | nil => rfl
  | cons a as ih => show ((q a).ret && D.retAll (as.map q)) = true; rw [h, ih]; rfl
/-! operators -/
@[simp] theorem addD_ii : addD (.int i) (.int j) = .ok (.int (i + j)) := ndq rfl
@[simp] theorem subD_ii : subD (.int i) (.int j) = .ok (.int (i - j)) := ndq rfl
@[simp] theorem negD_i : negD (.int i) = .ok (.int (-i)) := ndq rfl
@[simp] theorem mulD_ii : mulD (.int i) (.int j) = if mulOk i j = true then .ok (.int (i * j)) else .stuck := ndq rfl
theorem mulOk_l {i j : Int} (h1 : -bigI < i) (h2 : i < bigI) : mulOk i j = true := by unfold mulOk; simp [h1, h2]
theorem mulOk_r {i j : Int} (h1 : -bigI < j) (h2 : j < bigI) : mulOk i j = true := by unfold mulOk; simp [h1, h2]
theorem mulD_l {i j : Int} (h : -18446744073709551616 < i ∧ i < 18446744073709551616) : mulD (.int i) (.int j) = .ok (.int (i * j)) := by rw [mulD_ii, if_pos (mulOk_l h.1 h.2)]
theorem mulD_r {i j : Int} (h : -18446744073709551616 < j ∧ j < 18446744073709551616) : mulD (.int i) (.int j) = .ok (.int (i * j)) := by rw [mulD_ii, if_pos (mulOk_r h.1 h.2)]
theorem fdivD_ii (h : 0 < j ∧ j < 1073741824) : fdivD (.int i) (.int j) = .ok (.int (i / j)) := by
  show (if j ≠ 0 ∧ j.natAbs < 1073741824 then Res.ok (D.int (i.fdiv j)) else .stuck) = _
  rw [if_pos ⟨by omega, by omega⟩, Int.fdiv_eq_ediv_of_nonneg _ (by omega)]
theorem modD_ii (h : 0 < j) : modD (.int i) (.int j) = .ok (.int (i % j)) := by
  show (if j ≠ 0 then Res.ok (D.int (i.fmod j)) else .stuck) = _
  rw [if_pos (by omega), Int.fmod_eq_emod_of_nonneg _ (by omega)]
@[simp] theorem ltD_ii : ltD (.int i) (.int j) = .ok (.bl (decide (i < j))) := ndq rfl
@[simp] theorem leD_ii : leD (.int i) (.int j) = .ok (.bl (decide (i ≤ j))) := ndq rfl
@[simp] theorem gtD_ii : gtD (.int i) (.int j) = .ok (.bl (decide (j < i))) := ndq rfl
@[simp] theorem geD_ii : geD (.int i) (.int j) = .ok (.bl (decide (j ≤ i))) := ndq rfl
@[simp] theorem eqD_ii : eqD (.int i) (.int j) = .ok (.bl (decide (i = j))) := by
  have e0 : eqD (.int i) (.int j) = .ok (.bl (decide (V.int i = V.int j))) := rfl
  rw [e0]
  have e : (V.int i = V.int j) = (i = j) := by rw [V.int.injEq]
  simp only [e]
@[simp] theorem eqD_ss : eqD (.str x) (.str y) = .ok (.bl (decide (x = y))) := by
  have e0 : eqD (.str x) (.str y) = .ok (.bl (decide (V.str x = V.str y))) := rfl
  rw [e0]
  have e : (V.str x = V.str y) = (x = y) := by rw [V.str.injEq]
  simp only [e]
@[simp] theorem notR_bl : notR (.ok (.bl b)) = .ok (.bl (!b)) := ndq rfl
@[simp] theorem neD_ii : neD (.int i) (.int j) = .ok (.bl (!decide (i = j))) := by unfold neD; rw [eqD_ii]; rfl
@[simp] theorem neD_ss : neD (.str x) (.str y) = .ok (.bl (!decide (x = y))) := by unfold neD; rw [eqD_ss]; rfl
/-! tests -/
def bK : D → Res Bool
  | .bl b => .ok b
  | _ => .stuck
@[simp] theorem bE_eq : bE f ρ = (f ρ).bind bK := by
  unfold bE bK; cases f ρ with
  | ok d => cases d <;> rfl
  | err _ _ => rfl
  | stuck => rfl
@[simp] theorem bK_bl : bK (.bl b) = .ok b := ndq rfl
@[simp] theorem bT_eq : bT f ρ = (f ρ).bind truthD := ndq rfl
@[simp] theorem truthD_bl : truthD (.bl b) = .ok b := ndq rfl
@[simp] theorem truthD_int : truthD (.int i) = .ok (i != 0) := ndq rfl
@[simp] theorem truthD_non : truthD .non = .ok false := ndq rfl
@[simp] theorem truthD_lst : truthD (.lst k xs) = .ok (!xs.isEmpty) := ndq rfl
@[simp] theorem truthD_tup : truthD (.tup xs) = .ok (!xs.isEmpty) := ndq rfl
@[simp] theorem bNot_eq : bNot t ρ = (t ρ).bind fun b => .ok (!b) := ndq rfl
@[simp] theorem bAnd_eq : bAnd t t' ρ = (t ρ).bind fun b => if b = true then t' ρ else .ok false := ndq rfl
@[simp] theorem bOr_eq : bOr t t' ρ = (t ρ).bind fun b => if b = true then .ok true else t' ρ := ndq rfl
def blK (d : D) (a b : Res D) : Res D := match d with
  | .bl c => if c = true then a else b
  | _ => .stuck
@[simp] theorem blK_bl {a a' : Res D} : blK (.bl b) a a' = if b = true then a else a' := ndq rfl
@[simp] theorem eAnd_eq : eAnd f f' ρ = (f ρ).bind fun d => blK d (f' ρ) (.ok (.bl false)) := by
  unfold eAnd blK; cases f ρ with
  | ok d => cases d <;> rfl
  | err _ _ => rfl
  | stuck => rfl
@[simp] theorem eOr_eq : eOr f f' ρ = (f ρ).bind fun d => blK d (.ok (.bl true)) (f' ρ) := by
  unfold eOr blK; cases f ρ with
  | ok d => cases d <;> rfl
  | err _ _ => rfl
  | stuck => rfl
@[simp] theorem eNot_eq : eNot f ρ = (f ρ).bind fun d => (truthD d).bind fun b => .ok (.bl (!b)) := ndq rfl
@[simp] theorem isiD_int {T : String} : isiD T (.int i) = .ok (.bl (T == "int")) := ndq rfl
@[simp] theorem isiD_bl {T : String} : isiD T (.bl b) = .ok (.bl (T == "int" || T == "bool")) := ndq rfl
@[simp] theorem isiD_str {T : String} : isiD T (.str x) = .ok (.bl (T == "str")) := ndq rfl
@[simp] theorem isiD_lst {T : String} : isiD T (.lst k xs) = .ok (.bl (T == "list")) := ndq rfl
@[simp] theorem isiD_tup {T : String} : isiD T (.tup xs) = .ok (.bl (T == "tuple")) := ndq rfl
@[simp] theorem isiD_non {T : String} : isiD T .non = .ok (.bl false) := ndq rfl
/-! chains -/
def thenK (d : D) (k : Res D) : Res D := match d with
  | .bl true => k
  | .bl false => .ok (.bl false)
  | _ => .stuck
@[simp] theorem thenK_bl {k : Res D} : thenK (.bl b) k = if b = true then k else .ok (.bl false) := by cases b <;> rfl
@[simp] theorem thenD_eq {r k : Res D} : thenD r k = r.bind fun d => thenK d k := by
  unfold thenD thenK
  cases r with
  | ok d => cases d <;> first | rfl | (rename_i b; cases b <;> rfl)
  | err _ _ => rfl
  | stuck => rfl
@[simp] theorem eCh2_eq {g g' : D → D → Res D} : eCh2 g g' f f' f2 ρ = (f ρ).bind fun x => (f' ρ).bind fun y => thenD (g x y) ((f2 ρ).bind fun z => g' y z) := ndq rfl
@[simp] theorem eCh3_eq {g g' g2 : D → D → Res D} : eCh3 g g' g2 f f' f2 f3 ρ = (f ρ).bind fun x => (f' ρ).bind fun y => thenD (g x y) ((f2 ρ).bind fun z => thenD (g' y z) ((f3 ρ).bind fun u => g2 z u)) := ndq rfl
/-! displays, items -/
@[simp] theorem eTup_eq : eTup fs ρ = (fs ρ).bind fun ds => if ds.length ≤ LINE then .ok (.tup ds) else .stuck := ndq rfl
@[simp] theorem eLst_eq : eLst fs ρ = (fs ρ).bind fun ds => if ds.length ≤ LINE ∧ D.retAll ds = true then .ok (.lst .own ds) else .stuck := ndq rfl
@[simp] theorem eTmp_eq : eTmp fs ρ = (fs ρ).bind fun ds => if ds.length ≤ LINE then .ok (.lst .tmp ds) else .stuck := ndq rfl
theorem line_of {n : Nat} (h : n ≤ 16777216) : n ≤ LINE := h
@[simp] theorem ixD_lst : ixD (.lst k xs) (.int i) = ixA xs i .ok := ndq rfl
@[simp] theorem ixD_tup : ixD (.tup xs) (.int i) = ixA xs i .ok := ndq rfl
@[simp] theorem ixD_scr {ns : List Int} : ixD (.scr ns) (.int i) = ixA ns i fun n => .ok (.int n) := ndq rfl
theorem atI_nat {as : List α} {m : Nat} : atI as (m : Int) = as[m]? := by
  unfold atI ixN
  by_cases h : m < as.length
  · simp [h]
  · simp [h]
theorem ixA_nat {as : List α} {m : Nat} {a : α} {g : α → Res D} (h : as[m]? = some a) : ixA as (m : Int) g = g a := by
  unfold ixA; rw [atI_nat, h]
theorem ixA_int {as : List α} {a : α} {g : α → Res D} (h0 : 0 ≤ i) (h : as[i.toNat]? = some a) : ixA as i g = g a := by
  have e : i = (i.toNat : Int) := by omega
  rw [e]
  exact ixA_nat h
@[simp] theorem ixA_zero {a : α} {as : List α} {g : α → Res D} : ixA (a :: as) 0 g = g a := ixA_nat (m := 0) rfl
@[simp] theorem ixA_one {a a' : α} {as : List α} {g : α → Res D} : ixA (a :: a' :: as) 1 g = g a' := ixA_nat (m := 1) rfl
@[simp] theorem ixA_two {a a' a2 : α} {as : List α} {g : α → Res D} : ixA (a :: a' :: a2 :: as) 2 g = g a2 := ixA_nat (m := 2) rfl
@[simp] theorem ixA_three {a a' a2 a3 : α} {as : List α} {g : α → Res D} : ixA (a :: a' :: a2 :: a3 :: as) 3 g = g a3 := ixA_nat (m := 3) rfl
theorem ixA_last {as : List α} {a : α} {g : α → Res D} (h : as.getLast? = some a) : ixA as (-1) g = g a := by
  have hl : as ≠ [] := fun z => by rw [z] at h; cases h
  have hp : 0 < as.length := List.length_pos_iff.mpr hl
  have e : atI as (-1) = some a := by
    unfold atI ixN
    rw [List.getLast?_eq_getElem?] at h
    rw [if_neg (by omega), if_pos (by omega)]
    have c2 : (-1 + (as.length : Int)).toNat = as.length - 1 := by omega
    show as[(-1 + (as.length : Int)).toNat]? = some a
    rw [c2]
    exact h
  unfold ixA; rw [e]
theorem ixA_map {q : α → D} {as : List α} {g : D → Res D} : ixA (as.map q) i g = ixA as i fun a => g (q a) := by
  unfold ixA; rw [atI_map]; cases atI as i <;> rfl
end
end DH
/-! Evaluation of mirrors: statements, calls, loops. -/
namespace DH
open PySem L2
section
variable {α β γ : Type} {ρ ρ' ρ1 : Rho} {i j : Int} {d e : D} {xs ys : List D} {k l : LK} {x y : Str} {b c : Bool} {F F' : Rho → Out} {f f' f2 f3 : Rho → Res D} {fs : Rho → Res (List D)} {t t' : Rho → Res Bool} {n : Nat} {cl : Str} {fv : List (Str × V)} {o : Out}
@[simp] theorem ob_ok (a : α) (g : α → Out) : oBind (.ok a) ρ g = g a := ndq rfl
@[simp] theorem ob_err (g : α → Out) : oBind (.err x fv) ρ g = .err x fv ρ := ndq rfl
@[simp] theorem ob_stuck (g : α → Out) : oBind .stuck ρ g = .stuck := ndq rfl
@[simp] theorem ob_ite (p : Prop) [Decidable p] (a a' : Res α) (g : α → Out) : oBind (if p then a else a') ρ g = if p then oBind a ρ g else oBind a' ρ g := by split <;> rfl
def oSeq (o : Out) (g : Rho → Out) : Out := match o with
  | .next ρ' => g ρ'
  | o => o
@[simp] theorem sSeq_eq : sSeq F F' ρ = oSeq (F ρ) F' := by unfold sSeq oSeq; cases F ρ <;> rfl
@[simp] theorem oSeq_next {g : Rho → Out} : oSeq (.next ρ) g = g ρ := ndq rfl
@[simp] theorem oSeq_ret {g : Rho → Out} : oSeq (.ret d) g = .ret d := ndq rfl
@[simp] theorem oSeq_brk {g : Rho → Out} : oSeq (.brk ρ) g = .brk ρ := ndq rfl
@[simp] theorem oSeq_cnt {g : Rho → Out} : oSeq (.cnt ρ) g = .cnt ρ := ndq rfl
@[simp] theorem oSeq_err {g : Rho → Out} : oSeq (.err x fv ρ) g = .err x fv ρ := ndq rfl
@[simp] theorem oSeq_stuck {g : Rho → Out} : oSeq .stuck g = .stuck := ndq rfl
@[simp] theorem sNil_eq : sNil ρ = .next ρ := ndq rfl
@[simp] theorem sBrk_eq : sBrk ρ = .brk ρ := ndq rfl
@[simp] theorem sCnt_eq : sCnt ρ = .cnt ρ := ndq rfl
@[simp] theorem sDrop_eq : sDrop f ρ = oBind (f ρ) ρ fun _ => .next ρ := ndq rfl
@[simp] theorem sRet_eq : sRet f ρ = oBind (f ρ) ρ retK := ndq rfl
@[simp] theorem sRetN_eq : sRetN ρ = .ret .non := ndq rfl
@[simp] theorem retK_int : retK (.int i) = .ret (.int i) := ndq rfl
@[simp] theorem retK_bl : retK (.bl b) = .ret (.bl b) := ndq rfl
@[simp] theorem retK_str : retK (.str x) = .ret (.str x) := ndq rfl
@[simp] theorem retK_non : retK .non = .ret .non := ndq rfl
@[simp] theorem retK_own : retK (.lst .own xs) = .ret (.lst .own xs) := ndq rfl
@[simp] theorem retK_frz : retK (.lst .frz xs) = .ret (.lst .frz xs) := ndq rfl
@[simp] theorem retK_ins {c : Str} {fl : List (Str × D)} : retK (.ins c fl) = .ret (.ins c fl) := ndq rfl
@[simp] theorem retK_tup : retK (.tup xs) = if D.retAll xs = true then .ret (.tup xs) else .stuck := ndq rfl
theorem retK_of (h : d.ret = true) : retK d = .ret d := if_pos h
def retO : Option (Option D) → Out
  | some (some d) => retK d
  | _ => .stuck
@[simp] theorem retO_some : retO (some (some d)) = retK d := ndq rfl
@[simp] theorem sRetV_eq (i : Nat) : sRetV i ρ = retO ρ[i]? := by unfold sRetV retO; rfl
@[simp] theorem sSet_eq (i : Nat) : sSet i f ρ = oBind (f ρ) ρ fun d => .next (ρ.set i (some d)) := ndq rfl
@[simp] theorem sIf_eq : sIf t F F' ρ = oBind (t ρ) ρ fun b => if b = true then F ρ else F' ρ := ndq rfl
def augP (op : Int → Int → Int) (i : Nat) (ρ : Rho) (x : Int) (d : D) : Out := match d with
  | .int y => .next (ρ.set i (some (.int (op x y))))
  | _ => .stuck
@[simp] theorem augP_int {op : Int → Int → Int} (i : Nat) (a b : Int) : augP op i ρ a (.int b) = .next (ρ.set i (some (.int (op a b)))) := ndq rfl
def augO (op : Int → Int → Int) (i : Nat) (ρ : Rho) (r : Res D) : Option (Option D) → Out
  | some (some (.int x)) => oBind r ρ (augP op i ρ x)
  | _ => .stuck
@[simp] theorem augO_int {op : Int → Int → Int} {i : Nat} {r : Res D} {a : Int} : augO op i ρ r (some (some (.int a))) = oBind r ρ (augP op i ρ a) := ndq rfl
@[simp] theorem sAug_eq {op : Int → Int → Int} (i : Nat) : sAug op i f ρ = augO op i ρ (f ρ) ρ[i]? := by
  have key : ∀ o, ρ[i]? = o → sAug op i f ρ = augO op i ρ (f ρ) o := fun o h => by
    unfold sAug
    rw [h]
    match o, h with
    | none, _ => rfl
    | some none, _ => rfl
    | some (some (.int a)), h =>
      show oBind (f ρ) ρ (augK op i ρ) = oBind (f ρ) ρ (augP op i ρ a)
      congr 1
      funext d
      unfold augK augP
      rw [h]
      cases d <;> rfl
    | some (some .non), _ => rfl
    | some (some (.bl _)), _ => rfl
    | some (some (.str _)), _ => rfl
    | some (some (.lst _ _)), _ => rfl
    | some (some (.tup _)), _ => rfl
    | some (some (.ins _ _)), _ => rfl
    | some (some (.obj _ _)), _ => rfl
    | some (some (.scr _)), _ => rfl
  exact key _ rfl
def appP (i : Nat) (ρ : Rho) (xs : List D) (d : D) : Out := if d.ret = true ∧ xs.length < LINE then .next (ρ.set i (some (.lst .own (xs ++ [d])))) else .stuck
theorem appP_of {i : Nat} (h : xs.length < LINE) : appP i ρ xs d = if d.ret = true then .next (ρ.set i (some (.lst .own (xs ++ [d])))) else .stuck := by unfold appP; simp [h]
def appO (i : Nat) (ρ : Rho) (r : Res D) : Option (Option D) → Out
  | some (some (.lst .own xs)) => oBind r ρ (appP i ρ xs)
  | _ => .stuck
@[simp] theorem appO_own {i : Nat} {r : Res D} : appO i ρ r (some (some (.lst .own xs))) = oBind r ρ (appP i ρ xs) := ndq rfl
@[simp] theorem sApp_eq (i : Nat) : sApp i f ρ = appO i ρ (f ρ) ρ[i]? := by
  have key : ∀ o, ρ[i]? = o → sApp i f ρ = appO i ρ (f ρ) o := fun o h => by
    unfold sApp
    rw [h]
    match o, h with
    | none, _ => rfl
    | some none, _ => rfl
    | some (some (.lst .own xs)), h =>
      show oBind (f ρ) ρ (appK i ρ) = oBind (f ρ) ρ (appP i ρ xs)
      congr 1
      funext d
      unfold appK appP
      rw [h]
    | some (some (.lst .frz _)), _ => rfl
    | some (some (.lst .bor _)), _ => rfl
    | some (some (.lst .tmp _)), _ => rfl
    | some (some .non), _ => rfl
    | some (some (.bl _)), _ => rfl
    | some (some (.str _)), _ => rfl
    | some (some (.int _)), _ => rfl
    | some (some (.tup _)), _ => rfl
    | some (some (.ins _ _)), _ => rfl
    | some (some (.obj _ _)), _ => rfl
    | some (some (.scr _)), _ => rfl
  exact key _ rfl
def setP (i : Nat) (ρ : Rho) (xs : List D) (m : Option Nat) (d : D) : Out := match m with
  | some m => if d.ret = true ∧ d.dup = true ∧ D.dupAll xs = true then .next (ρ.set i (some (.lst .own (xs.set m d)))) else .stuck
  | none => .stuck
theorem setP_of {i m : Nat} (h : d.ret = true) (h2 : d.dup = true) (h3 : D.dupAll xs = true) : setP i ρ xs (some m) d = .next (ρ.set i (some (.lst .own (xs.set m d)))) := if_pos ⟨h, h2, h3⟩
def setJ (i : Nat) (ρ : Rho) (xs : List D) (d j : D) : Out := match j with
  | .int n => setP i ρ xs (ixN xs.length n) d
  | _ => .stuck
@[simp] theorem setJ_int {i : Nat} {n : Int} : setJ i ρ xs d (.int n) = setP i ρ xs (ixN xs.length n) d := ndq rfl
def setO (i : Nat) (ρ : Rho) (r r' : Res D) : Option (Option D) → Out
  | some (some (.lst .own xs)) => oBind r ρ fun d => oBind r' ρ fun j => setJ i ρ xs d j
  | _ => .stuck
@[simp] theorem setO_own {i : Nat} {r r' : Res D} : setO i ρ r r' (some (some (.lst .own xs))) = oBind r ρ fun d => oBind r' ρ fun j => setJ i ρ xs d j := ndq rfl
@[simp] theorem sIx_eq (i : Nat) : sIx i f' f ρ = setO i ρ (f ρ) (f' ρ) ρ[i]? := by
  have key : ∀ o, ρ[i]? = o → sIx i f' f ρ = setO i ρ (f ρ) (f' ρ) o := fun o h => by
    unfold sIx
    rw [h]
    match o, h with
    | none, _ => rfl
    | some none, _ => rfl
    | some (some (.lst .own xs)), h =>
      show (oBind (f ρ) ρ fun d => oBind (f' ρ) ρ fun j => setK i ρ j d) = oBind (f ρ) ρ fun d => oBind (f' ρ) ρ fun j => setJ i ρ xs d j
      congr 1
      funext d
      congr 1
      funext j
      unfold setK setJ setP
      rw [h]
      cases j <;> rfl
    | some (some (.lst .frz _)), _ => rfl
    | some (some (.lst .bor _)), _ => rfl
    | some (some (.lst .tmp _)), _ => rfl
    | some (some .non), _ => rfl
    | some (some (.bl _)), _ => rfl
    | some (some (.str _)), _ => rfl
    | some (some (.int _)), _ => rfl
    | some (some (.tup _)), _ => rfl
    | some (some (.ins _ _)), _ => rfl
    | some (some (.obj _ _)), _ => rfl
    | some (some (.scr _)), _ => rfl
  exact key _ rfl
theorem ixN_nat {n m : Nat} (h : m < n) : ixN n (m : Int) = some m := by unfold ixN; simp [h]
theorem ixN_zero {n : Nat} (h : 0 < n) : ixN n 0 = some 0 := ixN_nat (m := 0) h
def frzO (i : Nat) (ρ : Rho) (F : Rho → Out) : Option (Option D) → Out
  | some (some d) => if d.ret = true then F (ρ.set i (some d.frz)) else .stuck
  | _ => .stuck
@[simp] theorem frzO_some {i : Nat} : frzO i ρ F (some (some d)) = if d.ret = true then F (ρ.set i (some d.frz)) else .stuck := ndq rfl
@[simp] theorem sFrz_eq (i : Nat) : sFrz i F ρ = frzO i ρ F ρ[i]? := by unfold sFrz frzO; rfl
/-! slots, one after the other -/
@[simp] theorem gN_eq (i : Nat) : gN i d ρ = some (ρ.set i (some d)) := ndq rfl
@[simp] theorem gTp_tup {u : GGs} : gTp u (.tup xs) ρ = u xs ρ := ndq rfl
@[simp] theorem gCn_cons {t : GG} {u : GGs} : gCn t u (d :: xs) ρ = (t d ρ).bind fun ρ' => u xs ρ' := ndq rfl
@[simp] theorem gNl_nil : gNl [] ρ = some ρ := ndq rfl
def unpO (r : Option Rho) : Out := match r with | some ρ' => .next ρ' | none => .stuck
@[simp] theorem unpO_some : unpO (some ρ) = .next ρ := ndq rfl
@[simp] theorem sUnp_eq {g : GG} : sUnp g f ρ = oBind (f ρ) ρ fun d => if d.dup = true then unpO (g d ρ) else .stuck := by
  unfold sUnp unpK unpO; rfl
/-! defs, calls -/
def outF (o : Out) : Res D := match o with
  | .next _ => .ok .non
  | .ret d => if d.ret then .ok d else .stuck
  | .err c fs _ => .err c fs
  | _ => .stuck
theorem runF_eq {ds : List D} : runF F n ds = outF (F (ds.map some ++ List.replicate n none)) := by unfold runF outF; rfl
@[simp] theorem outF_next : outF (.next ρ) = .ok .non := ndq rfl
@[simp] theorem outF_err : outF (.err x fv ρ) = .err x fv := ndq rfl
@[simp] theorem outF_stuck : outF .stuck = .stuck := ndq rfl
@[simp] theorem outF_ret : outF (.ret d) = if d.ret = true then .ok d else .stuck := ndq rfl
@[simp] theorem outF_ite (p : Prop) [Decidable p] (a a' : Out) : outF (if p then a else a') = if p then outF a else outF a' := by split <;> rfl
@[simp] theorem oSeq_ite (p : Prop) [Decidable p] (a a' : Out) (g : Rho → Out) : oSeq (if p then a else a') g = if p then oSeq a g else oSeq a' g := by split <;> rfl
@[simp] theorem eCall_eq {m : List D → Res D} : eCall n m fs ρ = (fs ρ).bind (callD n m) := ndq rfl
theorem callD_eq {m : List D → Res D} {ds : List D} : callD n m ds = if ds.length = n ∧ D.lenAll ds = true then m (D.lendAll ds) else .stuck := rfl
theorem callD_at {m : List D → Res D} {ds es : List D} (h1 : ds.length = n) (h2 : D.lenAll ds = true) (h3 : D.lendAll ds = es) : callD n m ds = m es := by rw [callD_eq, if_pos ⟨h1, h2⟩, h3]
@[simp] theorem eMeth_eq {c mn : Str} {m : List D → Res D} : eMeth c mn n m f fs ρ = (f ρ).bind (methK c mn n m (fs ρ)) := ndq rfl
@[simp] theorem eMake_eq {c : Str} {m : List D → Res (List (Str × D))} : eMake c n m fs ρ = (fs ρ).bind (makeD c n m) := ndq rfl
theorem makeD_at {c : Str} {m : List D → Res (List (Str × D))} {ds es : List D} (h1 : ds.length = n) (h2 : D.lenAll ds = true) (h3 : D.lendAll ds = es) : makeD c n m ds = (m es).bind fun fs => .ok (.ins c fs) := by
  unfold makeD; rw [if_pos ⟨h1, h2⟩, h3]
theorem methK_at {c mn : Str} {m : List D → Res D} {fl : List (Str × D)} {r : Res (List D)} (h : (fl.lookup mn).isNone = true) : methK c mn n m r (.ins c fl) = r.bind fun ds => callD n m (.ins c fl :: ds) := by
  show (if c = c ∧ (fl.lookup mn).isNone = true then _ else Res.stuck) = _
  rw [if_pos ⟨rfl, h⟩]
@[simp] theorem sRaise0_eq : sRaise0 x ρ = .err x [] ρ := ndq rfl
@[simp] theorem sRaise_eq {fl : List Str} : sRaise x fl fs ρ = oBind (fs ρ) ρ (raiseK x fl ρ) := ndq rfl
@[simp] theorem raiseK_int1 {g : Str} {i : Int} : raiseK x [g] ρ [.int i] = .err x [(g, .int i)] ρ := ndq rfl
/-! __init__ -/
def outI (c : Str) (o : Out) : Res (List (Str × D)) := match o with
  | .next ρ' => endI c ρ'[(0 : Nat)]?
  | .err c fs _ => .err c fs
  | _ => .stuck
theorem runI_eq {c : Str} {ds : List D} : runI F c n ds = outI c (F ((some (.obj c []) :: ds.map some) ++ List.replicate n none)) := by unfold runI outI; rfl
@[simp] theorem outI_next {c : Str} : outI c (.next ρ) = endI c ρ[(0 : Nat)]? := ndq rfl
@[simp] theorem outI_err {c : Str} : outI c (.err x fv ρ) = .err x fv := ndq rfl
@[simp] theorem outI_ite {c : Str} (p : Prop) [Decidable p] (a a' : Out) : outI c (if p then a else a') = if p then outI c a else outI c a' := by split <;> rfl
@[simp] theorem endI_obj {c : Str} {fl : List (Str × D)} : endI c (some (some (.obj c fl))) = .ok fl := if_pos rfl
def fldP (g : Str) (ρ : Rho) (c : Str) (fl : List (Str × D)) (d : D) : Out := if d.dup = true ∧ d.ret = true ∧ fl.length < 1000 then .next (ρ.set 0 (some (.obj c (putD g d fl)))) else .stuck
@[simp] theorem fldP_eq {g c : Str} {fl : List (Str × D)} : fldP g ρ c fl d = if d.dup = true ∧ d.ret = true ∧ fl.length < 1000 then .next (ρ.set 0 (some (.obj c (putD g d fl)))) else .stuck := ndq rfl
def fldO (c g : Str) (ρ : Rho) (r : Res D) : Option (Option D) → Out
  | some (some (.obj c' fl)) => if c' = c then oBind r ρ (fldP g ρ c' fl) else .stuck
  | _ => .stuck
@[simp] theorem fldO_obj {c g : Str} {r : Res D} {fl : List (Str × D)} : fldO c g ρ r (some (some (.obj c fl))) = oBind r ρ (fldP g ρ c fl) := if_pos rfl
@[simp] theorem sFld_eq {c g : Str} : sFld c g f ρ = fldO c g ρ (f ρ) ρ[(0 : Nat)]? := by
  have key : ∀ o, ρ[(0 : Nat)]? = o → sFld c g f ρ = fldO c g ρ (f ρ) o := fun o h => by
    unfold sFld
    rw [h]
    match o, h with
    | none, _ => rfl
    | some none, _ => rfl
    | some (some (.obj c' fl)), h =>
      show (if c' = c then oBind (f ρ) ρ (fldK g ρ) else .stuck) = if c' = c then oBind (f ρ) ρ (fldP g ρ c' fl) else .stuck
      have e : fldK g ρ = fldP g ρ c' fl := by
        funext d
        unfold fldK fldP
        rw [h]
      rw [e]
    | some (some (.lst _ _)), _ => rfl
    | some (some .non), _ => rfl
    | some (some (.bl _)), _ => rfl
    | some (some (.str _)), _ => rfl
    | some (some (.int _)), _ => rfl
    | some (some (.tup _)), _ => rfl
    | some (some (.ins _ _)), _ => rfl
    | some (some (.scr _)), _ => rfl
  exact key _ rfl
/-! try -/
def tryO (sub : Str → Str → Option Bool) (hs : List ClD) (o : Out) : Out := match o with
  | .err c fs ρ' => handle sub c fs ρ' hs
  | o => o
@[simp] theorem sTry_eq {sub : Str → Str → Option Bool} {hs : List ClD} : sTry sub F hs ρ = tryO sub hs (F ρ) := by unfold sTry tryO; cases F ρ <;> rfl
@[simp] theorem tryO_next {sub : Str → Str → Option Bool} {hs : List ClD} : tryO sub hs (.next ρ) = .next ρ := ndq rfl
@[simp] theorem tryO_ret {sub : Str → Str → Option Bool} {hs : List ClD} : tryO sub hs (.ret d) = .ret d := ndq rfl
@[simp] theorem tryO_err {sub : Str → Str → Option Bool} {hs : List ClD} : tryO sub hs (.err x fv ρ) = handle sub x fv ρ hs := ndq rfl
@[simp] theorem handle_nil {sub : Str → Str → Option Bool} : handle sub x fv ρ [] = .err x fv ρ := ndq rfl
theorem handle_yes {sub : Str → Str → Option Bool} {kk : ClD} {r : List ClD} (h : sub x kk.cls = some true) : handle sub x fv ρ (kk :: r) = if slotOk ρ kk.slot = true then behindA kk.slot (kk.f fv (rhoA ρ kk.slot)) else .stuck := by
  show (match sub x kk.cls with | some true => _ | some false => _ | none => _) = _
  rw [h]
theorem handle_no {sub : Str → Str → Option Bool} {kk : ClD} {r : List ClD} (h : sub x kk.cls = some false) : handle sub x fv ρ (kk :: r) = handle sub x fv ρ r := by
  show (match sub x kk.cls with | some true => _ | some false => _ | none => _) = _
  rw [h]
@[simp] theorem behindA_next {o : Option Nat} : behindA o (.next ρ) = .next (rhoA ρ o) := ndq rfl
@[simp] theorem behindA_ret {o : Option Nat} : behindA o (.ret d) = .ret d := ndq rfl
@[simp] theorem eXf_eq {g : Str} : eXf fv g ρ = xfR (fv.lookup g) := ndq rfl
/-! sources, loops -/
@[simp] theorem iOf_eq : iOf f ρ = (f ρ).bind itemsD := ndq rfl
@[simp] theorem iNew_eq : iNew f ρ = (f ρ).bind newItemsD := ndq rfl
@[simp] theorem iRg_eq {g : List D → Res (List D)} : iRg g fs ρ = (fs ρ).bind g := ndq rfl
@[simp] theorem itemsD_frz : itemsD (.lst .frz xs) = .ok xs := ndq rfl
@[simp] theorem itemsD_bor : itemsD (.lst .bor xs) = .ok xs := ndq rfl
@[simp] theorem itemsD_tup : itemsD (.tup xs) = if D.dupAll xs = true then .ok xs else .stuck := ndq rfl
@[simp] theorem newItemsD_own : newItemsD (.lst .own xs) = if D.dupAll xs = true then .ok xs else .stuck := ndq rfl
@[simp] theorem newItemsD_frz : newItemsD (.lst .frz xs) = .ok xs := ndq rfl
@[simp] theorem newItemsD_bor : newItemsD (.lst .bor xs) = .ok xs := ndq rfl
theorem rng1_at {m : Nat} (h : m < 4611686018427387904) : rng1D [.int (m : Int)] = .ok ((List.range m).map fun (i : Nat) => .int (i : Int)) := by
  show (if (m : Int) < 4611686018427387904 ∧ -4611686018427387904 ≤ (m : Int) then Res.ok (rngL 0 (m : Int).toNat) else .stuck) = _
  rw [if_pos ⟨by omega, by omega⟩]
  unfold rngL
  simp
theorem rng1_int (h : i < 4611686018427387904) (h2 : -4611686018427387904 ≤ i) : rng1D [.int i] = .ok ((List.range i.toNat).map fun (i : Nat) => .int (i : Int)) := by
  show (if i < 4611686018427387904 ∧ -4611686018427387904 ≤ i then Res.ok (rngL 0 i.toNat) else .stuck) = _
  rw [if_pos ⟨h, h2⟩]
  unfold rngL
  simp
theorem rng2_int {a b : Int} (h : a < 4611686018427387904) (h2 : -4611686018427387904 ≤ a) (h3 : b < 4611686018427387904) (h4 : -4611686018427387904 ≤ b) : rng2D [.int a, .int b] = .ok ((List.range (b - a).toNat).map fun (i : Nat) => .int (a + (i : Int))) := by
  show (if a < 4611686018427387904 ∧ -4611686018427387904 ≤ a ∧ b < 4611686018427387904 ∧ -4611686018427387904 ≤ b then Res.ok (rngL a (b - a).toNat) else .stuck) = _
  rw [if_pos ⟨h, h2, h3, h4⟩]
  rfl
theorem rngL_succ (lo : Int) (n : Nat) : rngL lo (n + 1) = .int lo :: rngL (lo + 1) n := by
  unfold rngL
  rw [List.range_succ_eq_map, List.map_cons, List.map_map]
  congr 1
  · simp
  · refine List.map_congr_left fun i _ => ?_
    show D.int (lo + ((i + 1 : Nat) : Int)) = D.int (lo + 1 + (i : Int))
    congr 1
    omega
theorem rng2_ok {a b : Int} (h : a < 4611686018427387904) (h2 : -4611686018427387904 ≤ a) (h3 : b < 4611686018427387904) (h4 : -4611686018427387904 ≤ b) : rng2D [.int a, .int b] = .ok (rngL a (b - a).toNat) := if_pos ⟨h, h2, h3, h4⟩
@[simp] theorem sFor_eq {g : GG} {src : Rho → Res (List D)} : sFor g src F ρ = oBind (src ρ) ρ fun ds => forD g F ds ρ := ndq rfl
@[simp] theorem forD_nil {g : GG} : forD g F [] ρ = .next ρ := ndq rfl
/-- a turn ends so -/
def okS (o : Out) (I : Rho → Prop) : Prop := match o with
  | .next ρ => I ρ
  | .cnt ρ => I ρ
  | _ => False
@[simp] theorem okS_next {I : Rho → Prop} : okS (.next ρ) I = I ρ := ndq rfl
@[simp] theorem okS_cnt {I : Rho → Prop} : okS (.cnt ρ) I = I ρ := ndq rfl
@[simp] theorem okS_ite {I : Rho → Prop} (p : Prop) [Decidable p] (a a' : Out) : okS (if p then a else a') I = if p then okS a I else okS a' I := by split <;> rfl
/-- a loop that never leaves, the items walked so far known -/
theorem for_upto {q : α → D} {g : GG} (all : List α) (Inv : List α → Rho → Prop) (h : ∀ done a rest ρ, all = done ++ a :: rest → Inv done ρ → ∃ ρ1, g (q a) ρ = some ρ1 ∧ okS (F ρ1) (Inv (done ++ [a]))) : ∀ {as done : List α} {ρ : Rho}, all = done ++ as → Inv done ρ →
    ∃ ρ', forD g F (as.map q) ρ = .next ρ' ∧ Inv all ρ'
  | [], done, ρ, e, hi => ⟨ρ, rfl, by rw [e, List.append_nil]; exact hi⟩
  | a :: as, done, ρ, e, hi => by
    obtain ⟨ρ1, e1, e2⟩ := h done a as ρ e hi
    have e0 : forD g F ((a :: as).map q) ρ = match F ρ1 with | .next ρ2 => forD g F (as.map q) ρ2 | .cnt ρ2 => forD g F (as.map q) ρ2 | .brk ρ2 => .next ρ2 | o => o := by
      show (match g (q a) ρ with | none => Out.stuck | some ρ1 => match F ρ1 with | .next ρ2 => forD g F (as.map q) ρ2 | .cnt ρ2 => forD g F (as.map q) ρ2 | .brk ρ2 => .next ρ2 | o => o) = _
      rw [e1]
    rw [e0]
    cases z : F ρ1 with
    | next ρ2 =>
      rw [z] at e2
      exact for_upto all Inv h (as := as) (done := done ++ [a]) (ρ := ρ2) (by rw [List.append_assoc]; exact e) e2
    | cnt ρ2 =>
      rw [z] at e2
      exact for_upto all Inv h (as := as) (done := done ++ [a]) (ρ := ρ2) (by rw [List.append_assoc]; exact e) e2
    | ret _ => rw [z] at e2; exact e2.elim
    | brk _ => rw [z] at e2; exact e2.elim
    | err _ _ _ => rw [z] at e2; exact e2.elim
    | stuck => rw [z] at e2; exact e2.elim
/-- .. from the first item on -/
theorem for_all {q : α → D} {g : GG} {as : List α} (Inv : List α → Rho → Prop) (h0 : Inv [] ρ) (h : ∀ done a rest ρ, as = done ++ a :: rest → Inv done ρ → ∃ ρ1, g (q a) ρ = some ρ1 ∧ okS (F ρ1) (Inv (done ++ [a]))) :
    ∃ ρ', forD g F (as.map q) ρ = .next ρ' ∧ Inv as ρ' := for_upto as Inv h (done := []) rfl h0
/-- .. over a range -/
theorem for_range {g : GG} {m : Nat} (Inv : Nat → Rho → Prop) (h0 : Inv 0 ρ) (h : ∀ k ρ, k < m → Inv k ρ → ∃ ρ1, g (.int (k : Int)) ρ = some ρ1 ∧ okS (F ρ1) (Inv (k + 1))) :
    ∃ ρ', forD g F ((List.range m).map fun (i : Nat) => .int (i : Int)) ρ = .next ρ' ∧ Inv m ρ' := by
  obtain ⟨ρ', e, i⟩ := for_all (q := fun (i : Nat) => D.int (i : Int)) (as := List.range m) (F := F) (g := g) (ρ := ρ) (fun done ρ => Inv done.length ρ) h0 (fun done a rest ρ e hi => by
    have hl : done.length < m := by
      have z := congrArg List.length e
      simp at z
      omega
    have ha : a = done.length := by
      have z := congrArg (fun l => l[done.length]?) e
      simp at z
      rw [List.getElem?_range hl] at z
      exact (Option.some.inj z).symm
    subst ha
    obtain ⟨ρ1, e1, e2⟩ := h _ ρ hl hi
    exact ⟨ρ1, e1, by simpa using e2⟩)
  exact ⟨ρ', e, by simpa using i⟩
theorem for_cons {g : GG} (h : g d ρ = some ρ1) : forD g F (d :: xs) ρ = match F ρ1 with | .next ρ2 => forD g F xs ρ2 | .cnt ρ2 => forD g F xs ρ2 | .brk ρ2 => .next ρ2 | o => o := by
  show (match g d ρ with | none => Out.stuck | some ρ1 => match F ρ1 with | .next ρ2 => forD g F xs ρ2 | .cnt ρ2 => forD g F xs ρ2 | .brk ρ2 => .next ρ2 | o => o) = _
  rw [h]
/-! comprehensions -/
theorem comp_map {q : α → D} {g : GG} {p : α → Bool} {r : α → D} : ∀ {as : List α}, (∀ a ∈ as, ∃ ρ1, g (q a) ρ = some ρ1 ∧ t ρ1 = .ok (p a) ∧ (p a = true → f ρ1 = .ok (r a))) → compD g t f ρ (as.map q) = .ok ((as.filter p).map r)
  | [], _ => rfl
  | a :: as, h => by
    obtain ⟨ρ1, e1, e2, e3⟩ := h a List.mem_cons_self
    have ih := comp_map (as := as) fun a m => h a (List.mem_cons_of_mem _ m)
    show compD g t f ρ (q a :: as.map q) = _
    unfold compD
    rw [e1]
    simp only [e2, noErr, rb_ok, ih]
    cases z : p a with
    | true =>
      simp only [if_true, e3 z, rb_ok, List.filter_cons_of_pos z, List.map_cons]
    | false =>
      simp only [Bool.false_eq_true, if_false]
      rw [List.filter_cons_of_neg (by rw [z]; exact Bool.false_ne_true)]
theorem eComp_eq {vs : List Nat} {src : Rho → Res (List D)} {g : GG} {ds ys : List D} (h1 : src ρ = .ok ds) (h2 : compD g t f (wipeR ρ vs) ds = .ok ys) (h3 : ys.length ≤ LINE) (h4 : D.retAll ys = true) : eComp vs src g t f ρ = .ok (.lst .own ys) := by
  unfold eComp
  rw [h1, rb_ok, h2, rb_ok, if_pos ⟨h3, h4⟩]
@[simp] theorem bYes_eq : bYes ρ = .ok true := ndq rfl
theorem powD_ii (h : 0 ≤ j ∧ j ≤ 1000000 ∧ i.natAbs < 18446744073709551616) : powD (.int i) (.int j) = .ok (.int (i ^ j.toNat)) := if_pos h
/-! lists joined, repeated, cut -/
@[simp] theorem elOk_own : elOk .own xs = D.dupAll xs := rfl
@[simp] theorem elOk_frz : elOk .frz xs = true := rfl
@[simp] theorem elOk_bor : elOk .bor xs = D.retAll xs := rfl
@[simp] theorem elOk_tmp : elOk .tmp xs = (D.dupAll xs && D.retAll xs) := rfl
@[simp] theorem addD_ll : addD (.lst k xs) (.lst l ys) = if elOk k xs = true ∧ elOk l ys = true ∧ xs.length + ys.length ≤ LINE then .ok (.lst .own (xs ++ ys)) else .stuck := ndq rfl
@[simp] theorem mulD_li : mulD (.lst k xs) (.int j) = if elOk k xs = true ∧ -9223372036854775808 ≤ j ∧ j < 9223372036854775808 ∧ xs.length * j.toNat ≤ LINE then .ok (.lst .own (List.replicate j.toNat xs).flatten) else .stuck := ndq rfl
@[simp] theorem eCut_eq {lo hi : Rho → Res (Option Int)} : eCut f lo hi ρ = (f ρ).bind fun d => (lo ρ).bind fun l => (hi ρ).bind fun h => cutD l h d := ndq rfl
@[simp] theorem oNone_eq : oNone ρ = .ok none := ndq rfl
@[simp] theorem oSome_eq : oSome f ρ = (f ρ).bind oInt := ndq rfl
@[simp] theorem oInt_int : oInt (.int i) = .ok (some i) := ndq rfl
@[simp] theorem cutD_lst {lo hi : Option Int} : cutD lo hi (.lst k xs) = if elOk k xs = true then .ok (.lst .own (cutA xs lo hi)) else .stuck := ndq rfl
theorem cutA_map {q : α → β} {as : List α} {lo hi : Option Int} : cutA (as.map q) lo hi = (cutA as lo hi).map q := by
  unfold cutA
  rw [List.length_map, ← List.map_drop, ← List.map_take]
theorem cutA_to {as : List α} {n : Nat} (h : n ≤ as.length) : cutA as none (some (n : Int)) = as.take n := by
  unfold cutA
  rw [HT.sIx_none, HT.sIx_nat, List.drop_zero]
  congr 1
  omega
theorem cutA_from {as : List α} {n : Nat} (h : n ≤ as.length) : cutA as (some (n : Int)) none = as.drop n := by
  unfold cutA
  rw [HT.sIx_none, HT.sIx_nat, Nat.min_eq_left h]
  exact List.take_of_length_le (by rw [List.length_drop]; omega)
theorem cutA_mid {as : List α} {n m : Nat} (h : n ≤ m) (h2 : m ≤ as.length) : cutA as (some (n : Int)) (some (m : Int)) = (as.drop n).take (m - n) := by
  unfold cutA
  rw [HT.sIx_nat, HT.sIx_nat, Nat.min_eq_left h2, Nat.min_eq_left (by omega)]
@[simp] theorem frzAll_app : D.frzAll (xs ++ ys) = D.frzAll xs ++ D.frzAll ys := by
  induction xs with
  | nil => rfl
  | cons x xs ih => show x.frz :: D.frzAll (xs ++ ys) = _; rw [ih]; rfl
@[simp] theorem lendAll_app : D.lendAll (xs ++ ys) = D.lendAll xs ++ D.lendAll ys := by
  induction xs with
  | nil => rfl
  | cons x xs ih => show x.lend :: D.lendAll (xs ++ ys) = _; rw [ih]; rfl
@[simp] theorem lenAll_app : D.lenAll (xs ++ ys) = (D.lenAll xs && D.lenAll ys) := by
  induction xs with
  | nil => rfl
  | cons x xs ih => show (x.len && D.lenAll (xs ++ ys)) = ((x.len && D.lenAll xs) && D.lenAll ys); rw [ih, Bool.and_assoc]
/-! lists compared -/
theorem eqD_same (hs : sV d = none) (h : plain 12 d = true) (h2 : plain 12 e = true) (ht : toPy d = toPy e) : eqD d e = .ok (.bl true) := by
  have z : eqb d e = true := by
    unfold eqb
    rw [← ht]
    exact PySem.SeqAt.eqv_refl _ (plain_py 12 d h).1
  unfold eqD
  rw [hs]
  rw [if_pos ⟨h, h2⟩, z]
theorem neD_same (hs : sV d = none) (h : plain 12 d = true) (h2 : plain 12 e = true) (ht : toPy d = toPy e) : neD d e = .ok (.bl false) := by
  unfold neD
  rw [eqD_same hs h h2 ht]
  rfl
theorem plain_lst (n : Nat) : plain (n + 1) (.lst k xs) = plainAll n xs := rfl
theorem plain_tup (n : Nat) : plain (n + 1) (.tup xs) = plainAll n xs := rfl
theorem plainAll_map {q : α → D} {n : Nat} (h : ∀ a, plain n (q a) = true) : ∀ as : List α, plainAll n (as.map q) = true
  | [] => by cases n <;> rfl
  | a :: as => by
    have e : plainAll n ((a :: as).map q) = (plain n (q a) && plainAll n (as.map q)) := by cases n <;> rfl
    rw [e, h, plainAll_map h as]
    rfl
theorem toPy_lst : toPy (.lst k xs) = toPy (.lst l xs) := rfl
/-! sums, lengths -/
@[simp] theorem lenD_lst : lenD [.lst k xs] = .ok (.int xs.length) := ndq rfl
@[simp] theorem lenD_tup : lenD [.tup xs] = .ok (.int xs.length) := ndq rfl
@[simp] theorem lenD_scr {ns : List Int} : lenD [.scr ns] = .ok (.int ns.length) := ndq rfl
@[simp] theorem intD_int : intD [.int i] = .ok (.int i) := ndq rfl
@[simp] theorem absD_int : absD [.int i] = .ok (.int (if i < 0 then -i else i)) := ndq rfl
@[simp] theorem max2D_ii : max2D [.int i, .int j] = .ok (.int (if j > i then j else i)) := ndq rfl
@[simp] theorem min2D_ii : min2D [.int i, .int j] = .ok (.int (if j < i then j else i)) := ndq rfl
theorem sumD_map {as : List α} {h : α → Int} : sumD [.lst k (as.map fun a => .int (h a))] = .ok (.int (as.map h).sum) := by
  show sumR (toInts (as.map fun a => D.int (h a))) = _
  rw [toInts_map]; rfl
end
end DH
/-! x in l; list(range(..)). -/
namespace DH
open PySem L2
/-! ### x in l -/
def anyD (xs : List D) (d : D) : Bool := xs.any fun x => eqb x d
def inG (f : Bool → Bool) (d : D) : D → Res D
  | .lst _ xs => if plain 12 d = true ∧ plainAll 11 xs = true then .ok (.bl (f (anyD xs d))) else .stuck
  | _ => .stuck
def inD : D → D → Res D := inG fun b => b
def ninD : D → D → Res D := inG fun b => !b
theorem any_py {d : D} : ∀ xs : List D, (toPyAll xs).any (fun z => PyData.eqv z (toPy d)) = anyD xs d
  | [] => rfl
  | x :: xs => by
    show (PyData.eqv (toPy x) (toPy d) || (toPyAll xs).any _) = (eqb x d || anyD xs d)
    rw [any_py xs]; rfl
section
variable {G : Gam}
theorem in_cases {f : Bool → Bool} {d e c : D} (h : inG f d e = .ok c) : ∃ k xs, e = .lst k xs ∧ plain 12 d = true ∧ plainAll 11 xs = true ∧ c = .bl (f (anyD xs d)) := by
  cases e <;> first | cases h; done | skip
  rename_i k xs
  have h : (if plain 12 d = true ∧ plainAll 11 xs = true then Res.ok (D.bl (f (anyD xs d))) else .stuck) = .ok c := h
  split at h
  · rename_i z; cases h; exact ⟨k, xs, rfl, z.1, z.2, rfl⟩
  · cases h
theorem in_ne {f : Bool → Bool} {d e : D} {c : Str} {fs : List (Str × V)} : inG f d e ≠ .err c fs := by
  intro h
  cases e <;> first | cases h; done | skip
  rename_i k xs
  have h : (if plain 12 d = true ∧ plainAll 11 xs = true then Res.ok (D.bl (f (anyD xs d))) else .stuck) = .err c fs := h
  split at h <;> cases h
theorem op2_in : Op2 G (rInD G.K) inD := Op2.sc (fun F B H x y d e p q Q c b hd he z k => by
  obtain ⟨l, xs, rfl, h1, h2, rfl⟩ := in_cases z
  have h3 : plain 12 (.lst l xs) = true := h2
  refine ⟨_, _, hd.dp b 12 h1, he.dp b 12 h3, plain_shaped h1, plain_shaped h3, ?_⟩
  rw [any_py]
  exact k _ rfl) fun _ _ _ _ => in_ne
theorem op2_nin : Op2 G (rNotInD G.K) ninD := Op2.sc (fun F B H x y d e p q Q c b hd he z k => by
  obtain ⟨l, xs, rfl, h1, h2, rfl⟩ := in_cases z
  have h3 : plain 12 (.lst l xs) = true := h2
  refine ⟨_, _, hd.dp b 12 h1, he.dp b 12 h3, plain_shaped h1, plain_shaped h3, ?_⟩
  rw [any_py]
  exact k _ rfl) fun _ _ _ _ => in_ne
end
theorem Room.u65 {k : Nat} {A : Around} (r : Room k A) : A.units + 65 < cLine := by have := r.un; omega
section
variable {G : Gam} {W : WX} {X : L2.Cx} {F B H : Hp} {σ : L2.St} {e a b : Expr} {fe fa fb : Rho → Res D} {pos pos2 p p2 : Pos} {ρ : Rho} {k : Nat}
theorem ev_in (hr : Room k X.A) (hK : X.K = G.K) (ha : EB G X W a fa) (hb : EB G X W b fb) (hm : behindInMarks .In b = false := by rfl) : EV G X W (.Compare a [.In] [b] pos) (eB2 inD fa fb) :=
  ev_cmp (r := rInD G.K) (by rw [← hK]; exact op_inD (Room.u65 hr)) op2_in ha hb hm
theorem ev_nin (hr : Room k X.A) (hK : X.K = G.K) (ha : EB G X W a fa) (hb : EB G X W b fb) (hm : behindInMarks .NotIn b = false := by rfl) : EV G X W (.Compare a [.NotIn] [b] pos) (eB2 ninD fa fb) :=
  ev_cmp (r := rNotInD G.K) (by rw [← hK]; exact op_notInD (Room.u65 hr)) op2_nin ha hb hm
theorem et_in (hr : Room k X.A) (hK : X.K = G.K) (ha : EB G X W a fa) (hb : EB G X W b fb) (hm : behindInMarks .In b = false := by rfl) : ET G X W (.Compare a [.In] [b] pos) (bE (eB2 inD fa fb)) :=
  et_cmp (r := rInD G.K) (by rw [← hK]; exact op_inD (Room.u65 hr)) op2_in ha hb hm
theorem et_nin (hr : Room k X.A) (hK : X.K = G.K) (ha : EB G X W a fa) (hb : EB G X W b fb) (hm : behindInMarks .NotIn b = false := by rfl) : ET G X W (.Compare a [.NotIn] [b] pos) (bE (eB2 ninD fa fb)) :=
  et_cmp (r := rNotInD G.K) (by rw [← hK]; exact op_notInD (Room.u65 hr)) op2_nin ha hb hm
/-! ### list(range(..)) -/
def rgOk (a b : Int) : Prop := -4611686018427387904 ≤ a ∧ a < 4611686018427387904 ∧ -4611686018427387904 ≤ b ∧ b < 4611686018427387904 ∧ (b - a).toNat ≤ LINE
instance (a b : Int) : Decidable (rgOk a b) := by unfold rgOk; infer_instance
def lstRg (a b : Int) : Res D := if rgOk a b then .ok (.lst .own (rngL a (b - a).toNat)) else .stuck
def lrg1D : List D → Res D
  | [.int b] => lstRg 0 b
  | _ => .stuck
def lrg2D : List D → Res D
  | [.int a, .int b] => lstRg a b
  | _ => .stuck
theorem rgV_rngL {T : Tx} (a b : Int) : Dats T F B H (rgV a b) (rngL a (b - a).toNat) [] := by
  have e1 : rgV a b = ((List.range (b - a).toNat).map fun (i : Nat) => a + (i : Int)).map V.int := by unfold rgV; rw [List.map_map]; rfl
  have e2 : rngL a (b - a).toNat = ((List.range (b - a).toNat).map fun (i : Nat) => a + (i : Int)).map D.int := by unfold rngL; rw [List.map_map]; rfl
  rw [e1, e2]
  exact Dats.ints _
theorem rngL_ret (a : Int) (n : Nat) : D.retAll (rngL a n) = true := by
  have e2 : rngL a n = ((List.range n).map fun (i : Nat) => a + (i : Int)).map D.int := by unfold rngL; rw [List.map_map]; rfl
  rw [e2]; exact retAll_ints _
theorem lst_rg {Q : VK} {a b : Int} (bs : Base G F B H) (k : kE G.T W σ F B H (lstRg a b) fun d F' B' H' => ∀ v p, Dat G.T F' B' H' v d p → p.Nodup → (∀ a ∈ p, H a = none) → Q v H') : RgOk a b ∧ ∀ q, H q = none → Q (.ref q) (upd H q (.lst (rgV a b))) := by
  obtain ⟨c, k⟩ := kE.ite k
  refine ⟨⟨c.1, c.2.1, c.2.2.1, c.2.2.2.1, c.2.2.2.2⟩, fun q n => ?_⟩
  exact ans_own bs (rgV_rngL a b) (rngL_ret _ _) k q n
theorem ev_lrg1 (hc : X.calm = true) (hm : X.mg "list" = none) (hm2 : X.mg "range" = none) (ha : EB G X W a fa) (hg : Gl X "list" := by rfl) (hg2 : Gl X "range" := by rfl)
    (na : starEach [a] X.env = (false, eval a X.env) :: starEach [] X.env := by rfl) (nb : starEach [.Call (.Name "range" p2) [a] [] pos2] X.env = (false, eval (.Call (.Name "range" p2) [a] [] pos2) X.env) :: starEach [] X.env := by rfl) :
    EV G X W (.Call (.Name "list" p) [.Call (.Name "range" p2) [a] [] pos2] [] pos) (eN lrg1D (aCons fa aNil)) :=
  pe_pre (pe_listRg hc hg hm (prg_1 hg2 hm2 ha na) nb) fun σ H Q ⟨ρ, F, B, rel, k⟩ => by
    have k0 : kE G.T W σ F B H (((fa ρ).bind fun d => Res.ok [d]).bind lrg1D) _ := k
    refine ⟨ρ, F, B, rel, (kE.bind (kE.bind k0)).mono fun d F1 B1 H1 x1 kk v q hd => ?_⟩
    have k1 := kE.ok x1.fb x1.bh kk
    clear kk
    cases d <;> first | exact k1.elim | skip
    rename_i n
    cases hd
    refine ⟨n, rfl, ?_⟩
    exact lst_rg (rel.base.ext x1) (kE.mono (r := lstRg 0 n) k1 fun d F2 B2 H2 x2 k2 v p hd nd new => k2 v p hd nd fun a m => x1.h.free (new a m))
theorem ev_lrg2 (hc : X.calm = true) (hm : X.mg "list" = none) (hm2 : X.mg "range" = none) (ha : EB G X W a fa) (hb : EB G X W b fb) (hg : Gl X "list" := by rfl) (hg2 : Gl X "range" := by rfl)
    (na : starEach [a, b] X.env = (false, eval a X.env) :: starEach [b] X.env := by rfl) (nb : starEach [b] X.env = (false, eval b X.env) :: starEach [] X.env := by rfl) (hpl : (backTo pos2 (starEach [b] X.env)).any (·.1) = false := by rfl)
    (nl : starEach [.Call (.Name "range" p2) [a, b] [] pos2] X.env = (false, eval (.Call (.Name "range" p2) [a, b] [] pos2) X.env) :: starEach [] X.env := by rfl) :
    EV G X W (.Call (.Name "list" p) [.Call (.Name "range" p2) [a, b] [] pos2] [] pos) (eN lrg2D (aCons fa (aCons fb aNil))) :=
  pe_pre (pe_listRg hc hg hm (prg_2 hg2 hm2 ha hb na nb hpl) nl) fun σ H Q ⟨ρ, F, B, rel, k⟩ => by
    have k0 : kE G.T W σ F B H (((fa ρ).bind fun d => ((fb ρ).bind fun e => Res.ok [e]).bind fun ds => Res.ok (d :: ds)).bind lrg2D) _ := k
    refine ⟨ρ, F, B, rel, (kE.bind (kE.bind k0)).mono fun d F1 B1 H1 x1 kk v q hd => ⟨ρ, F1, B1, rel.ext x1, (kE.bind (kE.bind kk)).mono fun e F2 B2 H2 x2 kk2 w r he => ?_⟩⟩
    have k1 := kE.ok x2.fb x2.bh (kE.ok x2.fb x2.bh kk2)
    clear kk kk2
    cases d <;> first | exact k1.elim | (cases e <;> exact k1.elim) | skip
    rename_i n
    cases e <;> first | exact k1.elim | skip
    rename_i m
    cases hd
    cases he
    refine ⟨n, m, rfl, rfl, ?_⟩
    exact lst_rg ((rel.base.ext x1).ext x2) (kE.mono (r := lstRg n m) k1 fun d F3 B3 H3 x3 k3 v p hd nd new => k3 v p hd nd fun a m => (x1.trans x2).h.free (new a m))
end
/-! ### sorted(set(l)) -/
def insS (n : Int) : List Int → List Int
  | [] => [n]
  | m :: r => if n < m then n :: m :: r else if n = m then m :: r else m :: insS n r
def setI : List Int → List Int
  | [] => []
  | n :: r => insS n (setI r)
theorem mem_insS {n k : Int} : ∀ {xs : List Int}, k ∈ insS n xs ↔ k = n ∨ k ∈ xs
  | [] => by simp [insS]
  | m :: r => by
    unfold insS
    split
    · simp
    · split
      · rename_i _ e; subst e; simp
      · rw [List.mem_cons, mem_insS (xs := r), List.mem_cons]
        constructor
        · rintro (h | h | h)
          · exact .inr (.inl h)
          · exact .inl h
          · exact .inr (.inr h)
        · rintro (h | h | h)
          · exact .inr (.inl h)
          · exact .inl h
          · exact .inr (.inr h)
theorem mem_setI {k : Int} : ∀ {xs : List Int}, k ∈ setI xs ↔ k ∈ xs
  | [] => by simp [setI]
  | n :: r => by
    show k ∈ insS n (setI r) ↔ _
    rw [mem_insS, mem_setI (xs := r), List.mem_cons]
theorem insS_asc {n : Int} : ∀ {xs : List Int}, xs.Pairwise (· < ·) → (insS n xs).Pairwise (· < ·)
  | [], _ => by simp [insS]
  | m :: r, h => by
    obtain ⟨h1, h2⟩ := List.pairwise_cons.mp h
    unfold insS
    split
    · rename_i c
      exact List.pairwise_cons.mpr ⟨fun y hy => (List.mem_cons.mp hy).elim (fun e => e ▸ c) fun hy => Int.lt_trans c (h1 y hy), h⟩
    · split
      · exact h
      · rename_i c1 c2
        refine List.pairwise_cons.mpr ⟨fun y hy => ?_, insS_asc h2⟩
        rcases mem_insS.mp hy with e | hy
        · omega
        · exact h1 y hy
theorem setI_asc : ∀ xs : List Int, (setI xs).Pairwise (· < ·)
  | [] => List.Pairwise.nil
  | n :: r => insS_asc (setI_asc r)
theorem asc_uniq : ∀ {xs ys : List Int}, xs.Pairwise (· < ·) → ys.Pairwise (· < ·) → (∀ k, k ∈ xs ↔ k ∈ ys) → xs = ys
  | [], [], _, _, _ => rfl
  | [], y :: ys, _, _, h => absurd ((h y).mpr List.mem_cons_self) (by simp)
  | x :: xs, [], _, _, h => absurd ((h x).mp List.mem_cons_self) (by simp)
  | x :: xs, y :: ys, hx, hy, h => by
    obtain ⟨x1, x2⟩ := List.pairwise_cons.mp hx
    obtain ⟨y1, y2⟩ := List.pairwise_cons.mp hy
    have e : x = y := by
      rcases List.mem_cons.mp ((h x).mp List.mem_cons_self) with a | a
      · exact a
      · rcases List.mem_cons.mp ((h y).mpr List.mem_cons_self) with b | b
        · exact b.symm
        · exact absurd (Int.lt_trans (x1 y b) (y1 x a)) (Int.lt_irrefl _)
    subst e
    rw [asc_uniq x2 y2 fun k => ?_]
    constructor
    · intro m
      rcases List.mem_cons.mp ((h k).mp (List.mem_cons_of_mem _ m)) with e | e
      · exact absurd (x1 k m) (by rw [e]; exact Int.lt_irrefl _)
      · exact e
    · intro m
      rcases List.mem_cons.mp ((h k).mpr (List.mem_cons_of_mem _ m)) with e | e
      · exact absurd (y1 k m) (by rw [e]; exact Int.lt_irrefl _)
      · exact e
def setR' : Option (List Int) → Res D
  | some ns => if ns.length < 64 then .ok (.lst .own ((setI ns).map D.int)) else .stuck
  | none => .stuck
def sortSetD : List D → Res D
  | [.lst _ xs] => setR' (toInts xs)
  | _ => .stuck
end DH
/-! sorted(set(l)) of whole numbers; x in l; list(range(..)). -/
namespace DH
open PySem L2 PySem.Spec PyProof.Rows
/-- a set as it begins -/
abbrev freshSet (w : World) : Obj := { cls := .type "set", dict := none, data := .set #[] 0 (.fresh 0 0 (!w.params.followText "set-order")) }
section
variable {P : Program} {w : World} {A : Around} {E : Value → Shared → Prop} {s : Shared}
/-- what is left where the fill of the set ended -/
def Filled (w : World) (s : Shared) (ns : List Int) (s2 : Shared) : Prop := ∃ hp tk c, s2 = { s with heap := hp, toks := tk } ∧ SetR w hp s.heap.objs.size (fun j => decide (j ∈ ns)) c ∧ c ≤ ns.length ∧ ∀ b o, s.heap.get? b = some o → hp.get? b = some o
theorem not_two {a b c : Addr} (h1 : a ≠ b) (h2 : a ≠ c) : a ∉ [b, c] := fun z => by
  rcases List.mem_cons.mp z with e | e
  · exact h1 e
  · exact h2 (List.mem_singleton.mp e)
set_option maxHeartbeats 3000000 in
theorem setl_run {l : Addr} {its : Array Value} {ns : List Int} {Q : Value → Shared → Prop} (quiet : A.handled = none) (isl : s.heap.IsList l its) (iv : IntsAre its.toList ns) (few : ns.length + 1 < scanBound)
    (k : ∀ s2, Filled w s ns s2 → Q (.ref s.heap.objs.size) s2) : wpAny (model P w) A (call (.type "set") [.ref l]) Q E s := by
  have sz : its.size = ns.length := by rw [← Array.length_toList]; exact IntsAre.length iv
  have ⟨cc, tt, m0⟩ := F.called_set.mro
  have m1 := F.called_set.made
  have m2 := F.called_set.sub
  have m3 := F.called_set.notType
  have m4 := F.called_set.canCreate
  have m5 := F.typeCall_set_1 (.ref l)
  refine wpAny_call (codeAny_of_tree ?_)
  refine (show wpAny _ _ (callAny (.type "set") _) _ _ _ from wpAny_pure ⟨Code.quiet_builtin _ (by decide +kernel), codeAny_builtin F.entry_type_call ?_⟩)
  rw [Around.under_plain (weight_type_call_type "set" [.ref l] []) rfl]
  repeat (any_goals (first | assumption | wp_step))
  refine codeAny_mono (code_set_led1 (.ref l) (E := E) (Q₁ := fun x t => x = .ref s.heap.objs.size ∧ t = { s with heap := s.heap.push (freshSet w) }) ⟨rfl, rfl⟩) fun r t hr => ?_
  match r, hr with
  | .error e, hr => exact hr
  | .ok .next, hr => exact hr.elim
  | .ok .brk, hr => exact hr.elim
  | .ok .cont, hr => exact hr.elim
  | .ok (.ret x), hr =>
    obtain ⟨rfl, rfl⟩ := hr
    have at0 : (s.heap.push (freshSet w)).get? s.heap.objs.size = some (freshSet w) := Heap.get?_push_size _ rfl
    have ty0 : Shared.TypeIs { s with heap := s.heap.push (freshSet w) } (.ref s.heap.objs.size) "set" := ⟨_, at0, rfl⟩
    have m6 := F.called_set.init.lookup
    have m7 := F.called_set.init.bind (.ref s.heap.objs.size)
    repeat (any_goals (first | assumption | wp_step))
    refine codeAny_mono (codeAny_call_builtin (R := wants (fun r s2 => r = .none ∧ Filled w s ns s2) E) F.called_set.init.plain F.entry_set_init (check_set_init_1 ty0 ?_)) fun r2 s2 hr2 => ?_
    · obtain ⟨⟨oc, od, oda, osl⟩, ol, ocl, nl, odl⟩ := isl
      obtain rfl : oc = .type "list" := ocl
      obtain rfl : oda = .seq its nl := odl
      have lat := Heap.get?_push_of_some (freshSet w) ol
      have u1 := F.sub_list_set
      have u2 := F.sub_list_frozenset
      have u3 : (Value.type "list" == Value.type "dict") = false := by decide
      have isl' : (s.heap.push (freshSet w)).IsList l its := ⟨_, lat, rfl, nl, rfl⟩
      unfold Builtin.«set.__init__» noKeywords Builtin.Frozenset.updateFrom
      generalize hit : pyIter = it
      wp_walk
      subst hit
      refine wpAny_pyIter_list isl' (wpAny_bind (wpAny_runValue ?_))
      have ll : l < s.heap.objs.size := Heap.lt_size ol
      have psz : (s.heap.push (freshSet w)).objs.size = s.heap.objs.size + 1 := Heap.size_push ..
      have lne : l ≠ (s.heap.push (freshSet w)).objs.size := by rw [psz]; exact Nat.ne_of_lt (Nat.lt_trans ll (Nat.lt_succ_self _))
      have out : s.heap.objs.size ∉ [(s.heap.push (freshSet w)).objs.size, l] := not_two (by rw [psz]; exact Nat.ne_of_lt (Nat.lt_succ_self _)) fun z => Nat.lt_irrefl _ (z ▸ ll)
      refine set_update_ints (Walks.list (show A.in1.in1.in1.handled = none by simp [quiet]) _ l lne its).toS s.heap.objs.size out ns sz few ?val (its.size - 0) 0 _ (by omega) (Nat.zero_le _) ⟨⟨_, Heap.get?_push_size _ rfl, rfl, rfl⟩, isl'.push _⟩ ?beg ?fin
      case val =>
        intro i v hv
        have hi : i < ns.length := by rw [← sz]; exact (Array.getElem?_eq_some_iff.mp hv).1
        obtain ⟨t, e⟩ := PyProof.Rows.IntsAre.int_at iv i v (by rw [Array.getElem?_toList]; exact hv)
        exact ⟨ns[i], t, List.getElem?_eq_getElem hi, by rw [e, List.getD_eq_getElem?_getD, List.getElem?_eq_getElem hi]; rfl⟩
      case beg => exact ⟨0, Nat.le_refl 0, setR_new_at (Heap.get?_push_of_some _ at0)⟩
      case fin =>
        intro s' c mv hc hS
        obtain ⟨hp, gg, dd, tk, os⟩ := s'
        obtain rfl : gg = s.gens := mv.gens
        obtain rfl : dd = s.drawn := mv.drawn
        obtain rfl : os = s.os := mv.os
        refine (show wpAny _ _ _ _ _ _ from wpAny_pure (show wpAny _ _ (ret Value.none) _ _ _ from wpAny_pure ⟨rfl, hp, tk, c, rfl, hS, (by rw [← sz]; exact hc), fun b o e => ?_⟩))
        have bl := Heap.lt_size e
        exact mv.heap b o (not_two (Nat.ne_of_lt bl) (by rw [psz]; exact Nat.ne_of_lt (Nat.lt_trans bl (Nat.lt_succ_self _)))) (Heap.get?_push_of_some _ (Heap.get?_push_of_some _ e))
    · match r2, hr2 with
      | .error e, hr2 => exact hr2
      | .ok .next, hr2 => exact hr2.elim
      | .ok .brk, hr2 => exact hr2.elim
      | .ok .cont, hr2 => exact hr2.elim
      | .ok (.ret r), hr2 =>
        obtain ⟨rfl, fl⟩ := hr2
        obtain ⟨hp, tk, c, rfl, f1, f2, f3⟩ := fl
        repeat (any_goals (first | assumption | wp_step))
        exact k _ ⟨hp, tk, c, rfl, f1, f2, f3⟩
end
def rSetI (K : PySem.W.Frag) (w : World) : List V → Hp → VK → Prop := fun xs H Q => ∃ (l : Addr) (ns : List Int), xs = [V.ref l] ∧ SqL K H l (ns.map V.int) ∧ ns.length < 64 ∧ ∀ p c, H p = none → c ≤ ns.length → Q (.ref p) (upd H p (SetO w p (fun j => decide (j ∈ ns)) c))
theorem cr_setI {X : L2.Cx} (hc : X.calm = true) : CallR X (.type "set") (rSetI X.K X.w) := by
  intro pins s σ H xs us Q I r h
  obtain ⟨l, ns, rfl, hl, few, q⟩ := h
  rw [Vals.ref1 r]
  obtain ⟨its, rv, pl, hz⟩ := I.list hl
  refine setl_run (P := X.prog) (w := X.w) (I.ok.hd hc) pl.isList (ns := ns) (by simpa using ints_of_vals rv) (by unfold scanBound; omega) fun s2 fl => ?_
  obtain ⟨hp, tk, c, rfl, f1, f2, f3⟩ := fl
  have fresh : H s.heap.objs.size = none := I.hok.fresh (Nat.le_refl _)
  exact ⟨.ref s.heap.objs.size, upd H s.heap.objs.size (SetO X.w s.heap.objs.size (fun j => decide (j ∈ ns)) c), I.laid (t' := tk) f3 (Nat.le_refl _) (setO_new f1), rfl, q _ c fresh f2⟩
section
variable {G : Gam} {W : WX} {X : L2.Cx} {F B H : Hp} {σ : L2.St} {e : Expr} {fe : Rho → Res D} {pos pos2 p p2 : Pos} {ρ : Rho}
theorem ev_sortSet (hcalm : X.calm = true) (hK : X.K = G.K) (hm : X.mg "sorted" = none) (hm2 : X.mg "set" = none) (h : EB G X W e fe) (hg : Gl X "sorted" := by rfl) (hg2 : Gl X "set" := by rfl)
    (h1 : starEach (e :: []) X.env = (false, eval e X.env) :: starEach [] X.env := by rfl) (h2 : (backTo pos2 (starEach [] X.env)).any (·.1) = false := by rfl)
    (h3 : starEach (.Call (.Name "set" p2) [e] [] pos2 :: []) X.env = (false, eval (.Call (.Name "set" p2) [e] [] pos2) X.env) :: starEach [] X.env := by rfl) (h4 : (backTo pos (starEach [] X.env)).any (·.1) = false := by rfl) :
    EV G X W (.Call (.Name "sorted" p) [.Call (.Name "set" p2) [e] [] pos2] [] pos) (eN sortSetD (aCons fe aNil)) := by
  refine pe_pre (pe_callB (cr_sortedSet hcalm) hg hm PyProof.Rows.boot_sorted (pa_cons (pe_callTy (cr_setI hcalm) hg2 hm2 PyProof.Rows.boot_set (pa_cons h pa_nil h1) (by decide) (by decide) h1 h2) pa_nil h3) (by decide) (by decide) h3 h4) fun σ H Q ⟨ρ, F, B, rel, k⟩ => ?_
  have k0 : kE G.T W σ F B H (((fe ρ).bind fun d => Res.ok [d]).bind sortSetD) _ := k
  refine ⟨ρ, F, B, rel, (kE.bind (kE.bind k0)).mono fun d F1 B1 H1 x1 kk v q hd => ?_⟩
  have k1 := kE.ok x1.fb x1.bh kk
  clear kk
  have b1 := rel.base.ext x1
  cases d <;> first | exact k1.elim | skip
  rename_i l xs
  have k2 : kE G.T W σ F1 B1 H1 (setR' (toInts xs)) _ := k1
  cases z : toInts xs with
  | none => rw [z] at k2; exact k2.elim
  | some ns =>
    rw [z] at k2
    obtain ⟨c, k3⟩ := kE.ite k2
    obtain ⟨a, ws, q', rfl, ea, ds, _⟩ := hd.lst b1
    rw [toInts_of z] at ds
    rw [ds.to_ints] at ea
    refine ⟨a, ns, rfl, by rw [hK]; exact SqL.of ea, c, fun p c' fresh le => ⟨p, _, c', rfl, upd_same, by omega, fun ns' p2 asc mem len fresh2 => ?_⟩⟩
    have e : ns' = setI ns := asc_uniq asc (setI_asc ns) fun k => by rw [mem, mem_setI]; simp
    subst e
    have y1 := Ext.new (o := SetO X.w p (fun j => decide (j ∈ ns)) c') b1.fb b1.bh fresh
    obtain ⟨y2, hd2⟩ := new_own (b1.ext y1) fresh2 (Dats.ints (setI ns)) (retAll_ints _)
    have ne : H1 p2 = none := y1.h.free fresh2
    exact k3 _ _ _ (y1.trans y2) _ _ hd2 (nd1 p2) fun a m => x1.h.free (new1 ne a m)
end
end DH
/-! Own lists within a tuple or a list: told[1].append(x) -/
namespace DH
open PySem L2
section
variable {G : Gam} {W : WX} {X : L2.Cx} {F B H F' B' H' : Hp} {σ : L2.St} {ρ : Rho} {pos : Pos}
theorem Dats.lens {T : Tx} : ∀ {vs : List V} {ds : List D} {p : List Addr} {k : Nat} {d : D}, Dats T F B H vs ds p → ds[k]? = some d → p.Nodup →
    ∃ v q, vs[k]? = some v ∧ Dat T F B H v d q ∧ q.Nodup ∧ (∀ b ∈ q, b ∈ p) ∧
      ∀ F1 B1 H1 e' q', Same F F1 → Same B B1 → (∀ b ∈ p, B1 b = none) → (∀ b ∈ p, b ∉ q → H1 b = H b) → Dat T F1 B1 H1 v e' q' → q'.Nodup → (∀ b ∈ q', b ∈ q ∨ b ∉ p) →
        ∃ p', Dats T F1 B1 H1 vs (ds.set k e') p' ∧ p'.Nodup ∧ ∀ b ∈ p', b ∈ p ∨ b ∈ q'
  | _, _, _, _, _, .nil, e, _ => by simp at e
  | _, _, _, 0, _, .cons (p := p1) (q := r) hd t, e, n => by
    simp at e
    subst e
    obtain ⟨n1, n2, n3⟩ := List.nodup_append.mp n
    refine ⟨_, _, rfl, hd, n1, fun b z => List.mem_append_left _ z, fun F1 B1 H1 e' q' g1 g2 g3 g4 g5 g6 g7 => ?_⟩
    refine ⟨_, .cons g5 (t.stay g1 g2 fun b z => ⟨g4 b (List.mem_append_right _ z) fun y => n3 _ y _ z rfl, g3 b (List.mem_append_right _ z)⟩), List.nodup_append.mpr ⟨g6, n2, fun b z c y w => ?_⟩, fun b z => ?_⟩
    · subst w
      rcases g7 _ z with w | w
      · exact n3 _ w _ y rfl
      · exact w (List.mem_append_right _ y)
    · rcases List.mem_append.mp z with z | z
      · exact .inr z
      · exact .inl (List.mem_append_right _ z)
  | _, _, _, k + 1, _, .cons (p := p1) (q := r) hd t, e, n => by
    obtain ⟨n1, n2, n3⟩ := List.nodup_append.mp n
    obtain ⟨v, q, h1, h2, h3, h4, kk⟩ := t.lens (k := k) (by simpa using e) n2
    refine ⟨v, q, by simpa using h1, h2, h3, fun b z => List.mem_append_right _ (h4 b z), fun F1 B1 H1 e' q' g1 g2 g3 g4 g5 g6 g7 => ?_⟩
    obtain ⟨p', s, n', m⟩ := kk F1 B1 H1 e' q' g1 g2 (fun b z => g3 b (List.mem_append_right _ z)) (fun b z => g4 b (List.mem_append_right _ z)) g5 g6 fun b z => (g7 b z).imp id fun y w => y (List.mem_append_right _ w)
    refine ⟨_, .cons (hd.stay g1 g2 fun b z => ⟨g4 b (List.mem_append_left _ z) fun y => n3 _ z _ (h4 b y) rfl, g3 b (List.mem_append_left _ z)⟩) s, List.nodup_append.mpr ⟨n1, n', fun b z c y w => ?_⟩, fun b z => ?_⟩
    · subst w
      rcases m _ y with w | w
      · exact n3 _ z _ w rfl
      · rcases g7 _ w with w | w
        · exact n3 _ z _ (h4 _ w) rfl
        · exact w (List.mem_append_left _ z)
    · rcases List.mem_append.mp z with z | z
      · exact .inl (List.mem_append_left _ z)
      · exact (m b z).imp (fun w => List.mem_append_right _ w) id
theorem Slots.lens : ∀ {σ : L2.St} {ρ : Rho} {p : List Addr} {i : Nat} {d : D}, Slots G.T F B H σ ρ p → ρ[i]? = some (some d) → p.Nodup →
    ∃ v q, σ[i]? = some (some v) ∧ Dat G.T F B H v d q ∧ q.Nodup ∧ (∀ b ∈ q, b ∈ p) ∧
      ∀ F1 B1 H1 e' q', Same F F1 → Same B B1 → (∀ b ∈ p, B1 b = none) → (∀ b ∈ p, b ∉ q → H1 b = H b) → Dat G.T F1 B1 H1 v e' q' → q'.Nodup → (∀ b ∈ q', b ∈ q ∨ b ∉ p) →
        ∃ p', Slots G.T F1 B1 H1 σ (ρ.set i (some e')) p' ∧ p'.Nodup ∧ ∀ b ∈ p', b ∈ p ∨ b ∈ q'
  | _, _, _, _, _, .nil, e, _ => by simp at e
  | _, _, _, 0, _, .un t, e, _ => by simp at e
  | _, _, _, i + 1, _, .un t, e, n => by
    obtain ⟨v, q, h1, h2, h3, h4, kk⟩ := t.lens (i := i) (by simpa using e) n
    refine ⟨v, q, by simpa using h1, h2, h3, h4, fun F1 B1 H1 e' q' g1 g2 g3 g4 g5 g6 g7 => ?_⟩
    obtain ⟨p', s, n', m⟩ := kk F1 B1 H1 e' q' g1 g2 g3 g4 g5 g6 g7
    exact ⟨p', .un s, n', m⟩
  | _, _, _, 0, _, .val (p := p1) (q := r) hd t, e, n => by
    simp at e
    subst e
    obtain ⟨n1, n2, n3⟩ := List.nodup_append.mp n
    refine ⟨_, _, rfl, hd, n1, fun b z => List.mem_append_left _ z, fun F1 B1 H1 e' q' g1 g2 g3 g4 g5 g6 g7 => ?_⟩
    refine ⟨_, .val g5 (t.stay g1 g2 fun b z => ⟨g4 b (List.mem_append_right _ z) fun y => n3 _ y _ z rfl, g3 b (List.mem_append_right _ z)⟩), List.nodup_append.mpr ⟨g6, n2, fun b z c y w => ?_⟩, fun b z => ?_⟩
    · subst w
      rcases g7 _ z with w | w
      · exact n3 _ w _ y rfl
      · exact w (List.mem_append_right _ y)
    · rcases List.mem_append.mp z with z | z
      · exact .inr z
      · exact .inl (List.mem_append_right _ z)
  | _, _, _, i + 1, _, .val (p := p1) (q := r) hd t, e, n => by
    obtain ⟨n1, n2, n3⟩ := List.nodup_append.mp n
    obtain ⟨v, q, h1, h2, h3, h4, kk⟩ := t.lens (i := i) (by simpa using e) n2
    refine ⟨v, q, by simpa using h1, h2, h3, fun b z => List.mem_append_right _ (h4 b z), fun F1 B1 H1 e' q' g1 g2 g3 g4 g5 g6 g7 => ?_⟩
    obtain ⟨p', s, n', m⟩ := kk F1 B1 H1 e' q' g1 g2 (fun b z => g3 b (List.mem_append_right _ z)) (fun b z => g4 b (List.mem_append_right _ z)) g5 g6 fun b z => (g7 b z).imp id fun y w => y (List.mem_append_right _ w)
    refine ⟨_, .val (hd.stay g1 g2 fun b z => ⟨g4 b (List.mem_append_left _ z) fun y => n3 _ z _ (h4 b y) rfl, g3 b (List.mem_append_left _ z)⟩) s, List.nodup_append.mpr ⟨n1, n', fun b z c y w => ?_⟩, fun b z => ?_⟩
    · subst w
      rcases m _ y with w | w
      · exact n3 _ z _ w rfl
      · rcases g7 _ w with w | w
        · exact n3 _ z _ (h4 _ w) rfl
        · exact w (List.mem_append_left _ z)
    · rcases List.mem_append.mp z with z | z
      · exact .inl (List.mem_append_left _ z)
      · exact (m b z).imp (fun w => List.mem_append_right _ w) id
/-- w, worth e, may be exchanged within the slots -/
def Lens (G : Gam) (F B H : Hp) (σ : L2.St) (ρ : Rho) (w : V) (e : D) (put : D → Rho) : Prop := ∃ fp q, Slots G.T F B H σ ρ fp ∧ fp.Nodup ∧ Dat G.T F B H w e q ∧ q.Nodup ∧ (∀ b ∈ q, b ∈ fp) ∧
  ∀ F1 B1 H1 e' q', Same F F1 → Same B B1 → (∀ b ∈ fp, B1 b = none) → (∀ b ∈ fp, b ∉ q → H1 b = H b) → Dat G.T F1 B1 H1 w e' q' → q'.Nodup → (e.ret = true → e'.ret = true) → (∀ b ∈ q', b ∈ q ∨ b ∉ fp) →
    ∃ p', Slots G.T F1 B1 H1 σ (put e') p' ∧ p'.Nodup
variable {w : V} {e : D} {put : D → Rho}
theorem Lens.ext (x : Ext F B H F' B' H') (h : Lens G F B H σ ρ w e put) : Lens G F' B' H' σ ρ w e put := by
  obtain ⟨fp, q, s, n, hd, nq, sub, k⟩ := h
  exact ⟨fp, q, s.ext x, n, hd.ext x, nq, sub, fun F1 B1 H1 e' q' g1 g2 g3 g4 => k F1 B1 H1 e' q' (x.f.trans g1) (x.b.trans g2) g3 fun b z y => (g4 b z y).trans (x.at (s.foot b z).1)⟩
theorem retAll_put {ds : List D} {k : Nat} {d d' : D} (e : ds[k]? = some d) (h : d.ret = true → d'.ret = true) (r : D.retAll ds = true) : D.retAll (ds.set k d') = true :=
  retAll_iff.mpr fun x z => (List.mem_or_eq_of_mem_set z).elim (retAll_iff.mp r x) fun y => y ▸ h (retAll_iff.mp r d (List.mem_of_getElem? e))
theorem Lens.tup {ds : List D} {k : Nat} {d : D} (h : Lens G F B H σ ρ w (.tup ds) put) (e : ds[k]? = some d) :
    ∃ a vs u, w = .ref a ∧ SqT G.K F a vs ∧ vs.length = ds.length ∧ vs[k]? = some u ∧ Lens G F B H σ ρ u d (fun d' => put (.tup (ds.set k d'))) := by
  obtain ⟨fp, q, s, n, hd, nq, sub, kk⟩ := h
  cases hd with
  | tup ea ds1 =>
    obtain ⟨u, q2, h1, h2, h3, h4, k2⟩ := ds1.lens e nq
    refine ⟨_, _, u, rfl, ea, ds1.length, h1, fp, q2, s, n, h2, h3, fun b z => sub b (h4 b z), fun F1 B1 H1 e' q' g1 g2 g3 g4 g5 g6 g7 g8 => ?_⟩
    obtain ⟨p', t, n', m⟩ := k2 F1 B1 H1 e' q' g1 g2 (fun b z => g3 b (sub b z)) (fun b z => g4 b (sub b z)) g5 g6 fun b z => (g8 b z).imp id fun y v => y (sub b v)
    exact kk F1 B1 H1 _ p' g1 g2 g3 (fun b z y => g4 b z fun v => y (h4 b v)) (.tup (seqT_same g1 ea) t) n' (fun r => retAll_put e g7 r) fun b z => (m b z).elim .inl fun y => (g8 b y).imp (h4 b) id
theorem Lens.lst {ds : List D} {k : Nat} {d : D} (h : Lens G F B H σ ρ w (.lst .own ds) put) (e : ds[k]? = some d) :
    ∃ a vs u, w = .ref a ∧ H a = some (.lst vs) ∧ vs.length = ds.length ∧ vs[k]? = some u ∧ Lens G F B H σ ρ u d (fun d' => put (.lst .own (ds.set k d'))) := by
  obtain ⟨fp, q, s, n, hd, nq, sub, kk⟩ := h
  cases hd with
  | own ea eb ds1 er =>
    obtain ⟨na, nq0⟩ := List.nodup_cons.mp nq
    obtain ⟨u, q2, h1, h2, h3, h4, k2⟩ := ds1.lens e nq0
    have af := sub _ List.mem_cons_self
    refine ⟨_, _, u, rfl, ea, ds1.length, h1, fp, q2, s, n, h2, h3, fun b z => sub b (List.mem_cons_of_mem _ (h4 b z)), fun F1 B1 H1 e' q' g1 g2 g3 g4 g5 g6 g7 g8 => ?_⟩
    obtain ⟨p', t, n', m⟩ := k2 F1 B1 H1 e' q' g1 g2 (fun b z => g3 b (sub b (List.mem_cons_of_mem _ z))) (fun b z => g4 b (sub b (List.mem_cons_of_mem _ z))) g5 g6 fun b z => (g8 b z).imp id fun y v => y (sub b (List.mem_cons_of_mem _ v))
    have nap : _ ∉ p' := fun z => (m _ z).elim na fun y => (g8 _ y).elim (fun v => na (h4 _ v)) fun v => v af
    refine kk F1 B1 H1 _ (_ :: p') g1 g2 g3 (fun b z y => g4 b z fun v => y (List.mem_cons_of_mem _ (h4 b v))) (.own ((g4 _ af fun v => na (h4 _ v)).trans ea) (g3 _ af) t (retAll_put e g7 er)) (List.nodup_cons.mpr ⟨nap, n'⟩) (fun _ => rfl) fun b z => ?_
    rcases List.mem_cons.mp z with rfl | z
    · exact .inl List.mem_cons_self
    · exact (m b z).elim (fun y => .inl (List.mem_cons_of_mem _ y)) fun y => (g8 b y).imp (fun v => List.mem_cons_of_mem _ (h4 b v)) id
/-! ### the place -/
abbrev LD := D × (D → Rho)
def tL (G : Gam) (W : WX) (f : Rho → Res LD) : TE := fun σ H Q => ∃ ρ F B, RelS G ρ F B σ H ∧ kE G.T W σ F B H (f ρ) fun l F' B' H' => ∀ w, Lens G F' B' H' σ ρ w l.1 l.2 → Q w H'
abbrev EL (G : Gam) (X : Cx) (W : WX) (e : Expr) (f : Rho → Res LD) : Prop := PE X e (tL G W f)
def lVar (i : Nat) : Rho → Res LD := fun ρ => match ρ[i]? with
  | some (some d) => .ok (d, fun d' => ρ.set i (some d'))
  | _ => .stuck
def lAt (l : LD) (j : D) : Res LD := match l.1, j with
  | .tup xs, .int n => (match ixN xs.length n with
    | some m => (match xs[m]? with
      | some e => .ok (e, fun e' => l.2 (.tup (xs.set m e')))
      | none => .stuck)
    | none => .stuck)
  | .lst .own xs, .int n => (match ixN xs.length n with
    | some m => (match xs[m]? with
      | some e => .ok (e, fun e' => l.2 (.lst .own (xs.set m e')))
      | none => .stuck)
    | none => .stuck)
  | _, _ => .stuck
def lIx (f : Rho → Res LD) (fb : Rho → Res D) : Rho → Res LD := fun ρ => (f ρ).bind fun l => (fb ρ).bind fun j => lAt l j
theorem el_var (i : Nat) {x : Str} {pos : Pos} (hN : X.N[i]? = some x := by rfl) (hv : Vis X.env.scope x := by first | exact Or.inl rfl | exact Or.inr (Or.inl rfl) | exact Or.inr (Or.inr rfl)) (hd : (x == ("__debug__" : Str)) = false := by decide)
    (hcd : (x == ("__classdict__" : Str)) = false := by decide) : EL G X W (.Name x pos) (lVar i) := pe_pre (pe_var hN hv hd hcd) fun σ H Q ⟨ρ, F, B, r, k⟩ => by
  unfold lVar at k
  split at k
  · rename_i d e
    obtain ⟨fp, s, n⟩ := r.slots
    obtain ⟨v, q, h1, h2, h3, h4, kk⟩ := s.lens e n
    refine ⟨v, h1, (kE.ok r.base.fb r.base.bh k) v ⟨fp, q, s, n, h2, h3, h4, fun F1 B1 H1 e' q' g1 g2 g3 g4 g5 g6 _ g8 => ?_⟩⟩
    obtain ⟨p', t, n', _⟩ := kk F1 B1 H1 e' q' g1 g2 g3 g4 g5 g6 g8
    exact ⟨p', t, n'⟩
  · exact k.elim
theorem el_ix {a b : Expr} {fa : Rho → Res LD} {fb : Rho → Res D} (hK : X.K = G.K) (ha : EL G X W a fa) (hb : EB G X W b fb) (hs : PlainIx b := by exact fun _ _ => rfl) : EL G X W (.Subscript a b pos) (lIx fa fb) := by
  refine pe_pre (pe_ix (r := rIx G.K) (by rw [← hK]; exact ix_seq) ha hb hs) fun σ H Q ⟨ρ, F, B, rel, k⟩ => ⟨ρ, F, B, rel, (kE.bind k).mono fun l F1 B1 H1 x1 k1 w hl => ⟨ρ, F1, B1, rel.ext x1, (kE.bind k1).mono fun j F2 B2 H2 x2 k2 u r hj => ?_⟩⟩
  have hl2 := hl.ext x2
  have b2 := (rel.ext (x1.trans x2)).base
  obtain ⟨d, put⟩ := l
  cases j <;> first | (cases d <;> exact k2.elim) | (cases d <;> first | exact k2.elim | (rename_i lk _; cases lk <;> exact k2.elim)) | skip
  rename_i n
  cases hj
  cases d with
  | tup xs =>
    have k2 : kE G.T W σ F2 B2 H2 (match ixN xs.length n with | some m => (match xs[m]? with | some e => .ok (e, fun e' => put (.tup (xs.set m e'))) | none => .stuck) | none => .stuck) _ := k2
    cases z : ixN xs.length n with
    | none => rw [z] at k2; exact k2.elim
    | some m =>
      rw [z] at k2
      cases z2 : xs[m]? with
      | none => simp only [z2] at k2; exact k2.elim
      | some e =>
        simp only [z2] at k2
        obtain ⟨a, vs, u, rfl, ea, le, h1, h2⟩ := hl2.tup z2
        exact .inr (.inl ⟨a, vs, n, u, rfl, rfl, seqT_same (b2.fb.trans b2.bh) ea, by unfold L2.atI; rw [le, z]; exact h1, kE.ok b2.fb b2.bh k2 _ h2⟩)
  | lst lk xs =>
    cases lk with
    | own =>
      have k2 : kE G.T W σ F2 B2 H2 (match ixN xs.length n with | some m => (match xs[m]? with | some e => .ok (e, fun e' => put (.lst .own (xs.set m e'))) | none => .stuck) | none => .stuck) _ := k2
      cases z : ixN xs.length n with
      | none => rw [z] at k2; exact k2.elim
      | some m =>
        rw [z] at k2
        cases z2 : xs[m]? with
        | none => simp only [z2] at k2; exact k2.elim
        | some e =>
          simp only [z2] at k2
          obtain ⟨a, vs, u, rfl, ea, le, h1, h2⟩ := hl2.lst z2
          exact .inl ⟨a, vs, n, u, rfl, rfl, SqL.of ea, by unfold L2.atI; rw [le, z]; exact h1, kE.ok b2.fb b2.bh k2 _ h2⟩
    | _ => exact k2.elim
  | _ => exact k2.elim
/-! ### .append there -/
def appL (l : LD) (d : D) : Out := match l.1 with
  | .lst .own xs => if d.ret = true ∧ xs.length < LINE then .next (l.2 (.lst .own (xs ++ [d]))) else .stuck
  | _ => .stuck
def isOwn : D → Bool
  | .lst .own _ => true
  | _ => false
def sAppL (f : Rho → Res LD) (fe : Rho → Res D) : Rho → Out := fun ρ => oBind (f ρ) ρ fun l => if isOwn l.1 = true then oBind (fe ρ) ρ (appL l) else .stuck
theorem kS.ite {D' : Ends} {c : Prop} [Decidable c] {o : Out} (h : kS G W D' (if c then o else .stuck)) : c ∧ kS G W D' o := by
  by_cases z : c
  · rw [if_pos z] at h; exact ⟨z, h⟩
  · rw [if_neg z] at h; exact h.elim
theorem ss_appL {o e : Expr} {fo : Rho → Res LD} {fe : Rho → Res D} {p2 p3 : Pos} (hK : X.K = G.K) (ho : EL G X W o fo) (he : EV G X W e fe)
    (hbase : attributeBase o "append" X.env (eval o X.env) = eval o X.env := by rfl)
    (hfew : ((backTo p3 (starEach (e :: []) X.env)).all (fun x => !x.1) && (backToKw p3 (keywordEach [] X.env)).all (fun x => x.1.isSome)
      && decide ((e :: []).length + ([] : List Keyword).length + (if ([] : List Keyword).isEmpty then 0 else 1) < 30)) = true := by rfl)
    (hline : (p2.endLine == p3.line) = true := by rfl) (hs : starEach (e :: []) X.env = (false, eval e X.env) :: starEach [] X.env := by rfl) (hplain : (backTo p3 (starEach [] X.env)).any (·.1) = false := by rfl)
    (hsw : swapsWith (.Call (.Attribute o "append" p2) [e] [] p3) none pos.line X.env = pure false := by rfl) :
    SS G X W (.Expr (.Call (.Attribute o "append" p2) [e] [] p3) pos) (sAppL fo fe) :=
  ps_pre (ps_expr (pe_bm PySem.F.plainAttrs_list PySem.F.slot_list_append PySem.F.type_list_append mt_append ho (pa_cons he pa_nil hs) hbase hfew hline hs hplain) hsw) fun D' σ H ⟨ρ, F, B, rel, k⟩ =>
    ⟨ρ, F, B, rel, (kS.bind rel k).mono fun l F1 B1 H1 x1 k1 w hl => by
      obtain ⟨c, k1⟩ := kS.ite k1
      obtain ⟨d0, put⟩ := l
      cases d0 with
      | lst lk xs =>
        cases lk with
        | own =>
          obtain ⟨fp, q, s, n, hd, nq, sub, kk⟩ := hl
          cases hd with
          | own ea eb ds1 er =>
            rename_i a vs q0
            refine ⟨Or.inl ⟨rfl, _, SqL.of ea⟩, ρ, F1, B1, rel.ext x1, (kS.bind (rel.ext x1) k1).mono fun d F2 B2 H2 x2 k2 v p hd ndp new => ?_⟩
            obtain ⟨c2, k2⟩ := kS.ite k2
            obtain ⟨na, nq0⟩ := List.nodup_cons.mp nq
            have af := sub _ List.mem_cons_self
            have sf := fun b z => (s.foot b z)
            have ha2 : H2 a = some (.lst vs) := (x2.at (sf a af).1).trans ea
            have hb2 : ∀ b ∈ fp, B2 b = none := fun b z => (x2.ob b (sf b z).1).trans (sf b z).2
            refine ⟨a, vs, v, rfl, rfl, ha2, by rw [ds1.length, line_eq]; exact c2.2, ?_⟩
            have nap : a ∉ p := fun z => (sf a af).1 (new a z)
            have new' : ∀ b ∈ p, b ∉ fp := fun b z y => (sf b y).1 (new b z)
            have un : ∀ b, b ≠ a → upd H2 a (.lst (vs ++ [v])) b = H2 b := fun b h => upd_ne h
            have t1 : Dats G.T F2 B2 (upd H2 a (.lst (vs ++ [v]))) vs xs q0 := ds1.stay x2.f x2.b fun b z => ⟨(un b fun y => na (y ▸ z)).trans (x2.at (sf b (sub b (List.mem_cons_of_mem _ z))).1), hb2 b (sub b (List.mem_cons_of_mem _ z))⟩
            have t2 : Dats G.T F2 B2 (upd H2 a (.lst (vs ++ [v]))) (vs ++ [v]) (xs ++ [d]) (q0 ++ (p ++ [])) := t1.append (.cons (hd.stay (.refl _) (.refl _) fun b z => ⟨upd_ne fun y => nap (y ▸ z), (hd.foot b z).2⟩) .nil)
            rw [List.append_nil] at t2
            have naq : a ∉ q0 ++ p := fun z => (List.mem_append.mp z).elim na nap
            obtain ⟨p', s', n'⟩ := kk F2 B2 (upd H2 a (.lst (vs ++ [v]))) (.lst .own (xs ++ [d])) (a :: (q0 ++ p)) x2.f x2.b hb2
              (fun b z y => (un b fun w => y (w ▸ List.mem_cons_self)).trans (x2.at (sf b z).1))
              (.own upd_same (hb2 a af) t2 (by rw [retAll_append, er]; show (true && (d.ret && true)) = true; rw [c2.1]; rfl))
              (List.nodup_cons.mpr ⟨naq, List.nodup_append.mpr ⟨nq0, ndp, fun b z c y w => by subst w; exact new' _ y (sub _ (List.mem_cons_of_mem _ z))⟩⟩) (fun _ => rfl)
              fun b z => (List.mem_cons.mp z).elim (fun y => .inl (y ▸ List.mem_cons_self)) fun z => (List.mem_append.mp z).imp (fun y => List.mem_cons_of_mem _ y) (new' b)
            exact k2 σ F2 B2 _ ⟨((rel.ext x1).ext x2).base.upd (hb2 a af), ⟨p', s', n'⟩, rel.pin⟩
        | _ => cases c
      | _ => cases c⟩
end
end DH
/-! kept = list(xs): later xs == kept, item by item the same. -/
namespace DH
open PySem L2
def sKeep (i j : Nat) (f : Rho → Out) : Rho → Out := fun ρ => match ρ[i]? with
  | some (some (.lst k xs)) => if D.dup (.lst k xs) = true ∧ elOk k xs = true ∧ j < ρ.length then f (ρ.set j (some (.lst .frz xs))) else .stuck
  | _ => .stuck
section
variable {G : Gam} {W : WX} {X : L2.Cx} {F B H : Hp} {σ : L2.St} {ρ : Rho} {rest : List Stmt} {f : Rho → Out}
def flatR (v : V) : Prop := flatB v = true ∨ ∃ a, v = .ref a
theorem Dat.flatR {T : Tx} {v : V} {d : D} {p : List Addr} (h : Dat T F B H v d p) : DH.flatR v := by
  cases h <;> first | exact .inl rfl | exact .inr ⟨_, rfl⟩
theorem Dats.flatR {T : Tx} : ∀ {vs : List V} {ds : List D} {p : List Addr}, Dats T F B H vs ds p → ∀ v ∈ vs, DH.flatR v
  | _, _, _, .nil, v, m => nomatch m
  | _, _, _, .cons h t, v, m => by
    rcases List.mem_cons.mp m with rfl | m
    · exact h.flatR
    · exact t.flatR v m
theorem same_all {K : PySem.W.Frag} : ∀ {vs : List V}, (∀ v ∈ vs, flatR v) → Paired (EqV K H 1) vs vs
  | [], _ => .nil
  | v :: vs, h => .cons (by
      rcases h v List.mem_cons_self with e | ⟨a, e⟩
      · exact .inl ⟨rfl, e⟩
      · exact .inr (.inl ⟨a, e, e⟩)) (same_all fun w m => h w (List.mem_cons_of_mem _ m))
theorem ev_keep {T : Tx} {H0 F0 : Hp} {i j : Nat} {a0 a1 : Addr} {r : List (Nat × Addr)} {vs : List V} {k : Nat} {x y : Str} {p1 p2 pos : Pos} (hr : Room k X.A) (h0 : H0 a0 = some (.lst vs)) (h1 : H0 a1 = some (.lst vs)) (hv : ∀ v ∈ vs, flatR v)
    (hi : X.N[i]? = some x := by rfl) (hj : X.N[j]? = some y := by rfl) (hx : Vis X.env.scope x := by first | exact Or.inl rfl | exact Or.inr (Or.inl rfl) | exact Or.inr (Or.inr rfl)) (hy : Vis X.env.scope y := by first | exact Or.inl rfl | exact Or.inr (Or.inl rfl) | exact Or.inr (Or.inr rfl))
    (hm : behindInMarks .Eq (.Name y p2) = false := by rfl) (hd1 : (x == ("__debug__" : Str)) = false := by decide) (hc1 : (x == ("__classdict__" : Str)) = false := by decide) (hd2 : (y == ("__debug__" : Str)) = false := by decide) (hc2 : (y == ("__classdict__" : Str)) = false := by decide) :
    EV ⟨T, H0, F0, (i, a0) :: (j, a1) :: r⟩ X W (.Compare (.Name x p1) [.Eq] [.Name y p2] pos) (eC (.bl true)) :=
  pe_pre (pe_cmpR (op_eqV (by have := Room.u65 hr; omega)) (pe_var hi hx hd1 hc1) (pe_var hj hy hd2 hc2) hm) fun σ H Q ⟨ρ, F, B, rel, k⟩ => by
    have e := rel.pin
    have b := rel.base
    have up : ∀ {a}, H0 a = some (.lst vs) → H a = some (.lst vs) := fun h => b.bh _ _ (b.h0 _ _ h)
    exact ⟨.ref a0, e.1, .ref a1, e.2.1, 1, by omega, .inl ⟨a0, a1, vs, vs, rfl, rfl, SqL.of (up h0), SqL.of (up h1), same_all hv⟩, kE.ok b.fb b.bh k _ [] (.bl true) List.nodup_nil fun _ z => nomatch z⟩
theorem PinnedL.get {l : List (Nat × Addr)} {σ : L2.St} : PinnedL l σ → ∀ {i a}, σ[i]? = some (some (.ref a)) → PinnedL ((i, a) :: l) σ := fun h _ _ e => ⟨e, h⟩
theorem sb_keep (i j : Nat) {x y : Str} {p p1 p2 pos pos' : Pos} (hK : X.K = G.K) (hm : X.mg "list" = none) (hp : PinOk G j) (hN : X.N.Nodup)
    (h : ∀ (H0 F0 : Hp) (a0 a1 : Addr) (vs : List V), H0 a0 = some (.lst vs) → H0 a1 = some (.lst vs) → (∀ v ∈ vs, flatR v) → SB ⟨G.T, H0, F0, (i, a0) :: (j, a1) :: G.pin⟩ X W rest f)
    (hi : X.N[i]? = some x := by rfl) (hj : X.N[j]? = some y := by rfl) (hij : j ≠ i := by decide) (hx : Vis X.env.scope x := by first | exact Or.inl rfl | exact Or.inr (Or.inl rfl) | exact Or.inr (Or.inr rfl)) (hy : Loc X.env.scope y := by first | exact Or.inl rfl | exact Or.inr rfl)
    (hf : X.fn y = true ∨ X.env.scope.names.lookup y = some .local := by first | exact .inl rfl | exact .inr rfl)
    (hs : swapsWith (.Call (.Name "list" p) [.Name x p1] [] pos) (some (.Name y p2)) pos'.line X.env = pure false := by rfl) (hd1 : (x == ("__debug__" : Str)) = false := by decide) (hc1 : (x == ("__classdict__" : Str)) = false := by decide) (hg : Gl X "list" := by rfl)
    (he : starEach [.Name x p1] X.env = (false, eval (.Name x p1) X.env) :: starEach [] X.env := by rfl) (hpl : (backTo pos (starEach [] X.env)).any (·.1) = false := by rfl) :
    SB G X W (.Assign [.Name y p2] (.Call (.Name "list" p) [.Name x p1] [] pos) pos' :: rest) (sKeep i j f) := by
  have hrest : PSs X rest (fun D' σ H => ∃ H0 F0 a0 a1 vs, H0 a0 = some (.lst vs) ∧ H0 a1 = some (.lst vs) ∧ (∀ v ∈ vs, flatR v) ∧ tS ⟨G.T, H0, F0, (i, a0) :: (j, a1) :: G.pin⟩ W f D' σ H) :=
    ⟨fun pins s σ H D I ⟨H0, F0, a0, a1, vs, q1, q2, q3, q⟩ => (h H0 F0 a0 a1 vs q1 q2 q3).run pins s σ H D I q⟩
  refine pss_pre (pss_cons (ps_set hN hj hy (pe_callTy call_list_of hg hm PyProof.Rows.boot_list (pa_cons (pe_var hi hx hd1 hc1) pa_nil he) (by decide) (by decide) he hpl) hs hf) hrest) fun D' σ H ⟨ρ, F, B, rel, k⟩ => ?_
  unfold sKeep at k
  split at k
  · rename_i k0 xs e
    split at k
    · rename_i c
      obtain ⟨fp, s, nd⟩ := rel.slots
      obtain ⟨v, q, e1, hd, _, _⟩ := s.get e
      obtain ⟨a, vs, q1, rfl, ea, ds, g1, g2, _⟩ := hd.lst rel.base
      obtain ⟨rfl, pu⟩ := g1 c.2.1
      obtain ⟨_, _, eb⟩ := g2 c.1
      refine ⟨_, e1, a, vs, rfl, .inl (SqL.of ea), fun l nl => ?_⟩
      have b := rel.base
      have x := Ext.imm (o := .lst vs) b.fb b.bh nl
      have hl : Dat G.T (upd F l (.lst vs)) (upd B l (.lst vs)) (upd H l (.lst vs)) (.ref l) (.lst .frz xs) [] := .frz upd_same (ds.ext x) pu
      have rel1 := rel.set x j hp hl List.nodup_nil fun _ z => nomatch z
      have b1 := rel1.base
      have eb1 : upd B l (.lst vs) a = some (.lst vs) := x.b _ _ eb
      have hjl : j < (σ : L2.St).length := by
        rw [s.length]; exact c.2.2
      refine ⟨upd B l (.lst vs), upd F l (.lst vs), a, l, vs, eb1, upd_same, ds.flatR, _, _, _, ⟨⟨.refl _, b1.fb, b1.bh, .refl _, fun _ _ => rfl⟩, rel1.slots, ?_, ?_, rel1.pin⟩, ?_⟩
      · rw [List.getElem?_set_ne hij]; exact e1
      · exact List.getElem?_set_self hjl
      · cases z : f (ρ.set j (some (.lst .frz xs))) with
        | next ρ1 => rw [z] at k; exact fun σ F B H r => k σ F B H ⟨⟨b1.f0.trans r.base.f0, r.base.fb, r.base.bh, b1.h0.trans r.base.h0, fun a n => (r.base.of0 a (Same.there b1.h0 n)).trans (b1.of0 a n)⟩, r.slots, r.pin.2.2⟩
        | ret d => rw [z] at k; exact fun v F B H p bs hd n => k v F B H p ⟨b1.f0.trans bs.f0, bs.fb, bs.bh, b1.h0.trans bs.h0, fun a n => (bs.of0 a (Same.there b1.h0 n)).trans (b1.of0 a n)⟩ hd n
        | brk ρ1 => rw [z] at k; exact fun σ F B H r => k σ F B H ⟨⟨b1.f0.trans r.base.f0, r.base.fb, r.base.bh, b1.h0.trans r.base.h0, fun a n => (r.base.of0 a (Same.there b1.h0 n)).trans (b1.of0 a n)⟩, r.slots, r.pin.2.2⟩
        | cnt ρ1 => rw [z] at k; exact fun σ F B H r => k σ F B H ⟨⟨b1.f0.trans r.base.f0, r.base.fb, r.base.bh, b1.h0.trans r.base.h0, fun a n => (r.base.of0 a (Same.there b1.h0 n)).trans (b1.of0 a n)⟩, r.slots, r.pin.2.2⟩
        | err c fs ρ1 => rw [z] at k; exact fun cv x σ F B H r ea => k cv x σ F B H ⟨⟨b1.f0.trans r.base.f0, r.base.fb, r.base.bh, b1.h0.trans r.base.h0, fun a n => (r.base.of0 a (Same.there b1.h0 n)).trans (b1.of0 a n)⟩, r.slots, r.pin.2.2⟩ ea
        | stuck => rw [z] at k; exact k
    · exact k.elim
  · exact k.elim
end
end DH
/-! Values with types: relations between plain Lean values and data; what lending, freezing and comparing do to them. -/
namespace DH
open PySem L2
abbrev Rl (α : Type) := α → D → Prop
abbrev Rls (α : Type) := α → List D → Prop
section
variable {α β γ τ : Type}
def rI : Rl Int := fun i d => d = .int i
def rB : Rl Bool := fun b d => d = .bl b
def rS : Rl Str := fun x d => d = .str x
def rN : Rl Unit := fun _ d => d = .non
def rD : Rl D := fun x d => d = x
def rSc : Rl (List Int) := fun ns d => d = .scr ns
inductive Al (r : Rl α) : List α → List D → Prop
  | nil : Al r [] []
  | cons {a : α} {d : D} {as : List α} {ds : List D} : r a d → Al r as ds → Al r (a :: as) (d :: ds)
/-- in which states a list may be -/
inductive Md where
  | own | frz | ro | ret | tmp
def Md.has : Md → LK → Bool
  | .own, .own => true
  | .frz, .frz => true
  | .ro, .frz => true
  | .ro, .bor => true
  | .ret, .own => true
  | .ret, .frz => true
  | .tmp, .tmp => true
  | _, _ => false
def rL (m : Md) (r : Rl α) : Rl (List α) := fun xs d => ∃ k ds, m.has k = true ∧ d = .lst k ds ∧ Al r xs ds
def rQ (r : Rl α) : Rl (List α) := fun xs d => ∃ ds, d = .tup ds ∧ Al r xs ds
def rs1 (r : Rl α) : Rls α := fun a ds => ∃ d, ds = [d] ∧ r a d
def rsC (r : Rl α) (s : Rls β) : Rls (α × β) := fun p ds => ∃ d es, ds = d :: es ∧ r p.1 d ∧ s p.2 es
def rT (s : Rls α) : Rl α := fun a d => ∃ ds, d = .tup ds ∧ s a ds
def rO (r : Rl α) : Rl (Option α) := fun o d => match o with
  | none => d = .non
  | some a => r a d
inductive PF : List (Str × (D → Prop)) → List (Str × D) → Prop
  | nil : PF [] []
  | cons {f : Str} {p : D → Prop} {d : D} {ps : List (Str × (D → Prop))} {ds : List (Str × D)} : p d → PF ps ds → PF ((f, p) :: ps) ((f, d) :: ds)
def rIns (c : Str) (F : α → List (Str × (D → Prop))) : Rl α := fun a d => ∃ fl, d = .ins c fl ∧ PF (F a) fl

theorem Al.len {r : Rl α} : ∀ {as : List α} {ds : List D}, Al r as ds → ds.length = as.length
  | _, _, .nil => rfl
  | _, _, .cons _ t => congrArg (· + 1) t.len
theorem Al.app {r : Rl α} : ∀ {as bs : List α} {ds es : List D}, Al r as ds → Al r bs es → Al r (as ++ bs) (ds ++ es)
  | _, _, _, _, .nil, h => h
  | _, _, _, _, .cons h t, h' => .cons h (t.app h')
theorem Al.get {r : Rl α} : ∀ {as : List α} {ds : List D} {i : Nat} {a : α}, Al r as ds → as[i]? = some a → ∃ d, ds[i]? = some d ∧ r a d
  | _, _, i, _, .nil, e => by simp at e
  | _, _, 0, _, .cons h t, e => by simp at e; subst e; exact ⟨_, rfl, h⟩
  | _, _, i + 1, _, .cons h t, e => by
    obtain ⟨d, e1, h1⟩ := t.get (i := i) (by simpa using e)
    exact ⟨d, by simpa using e1, h1⟩
theorem Al.all {r : Rl α} {p : D → Prop} (hp : ∀ a d, r a d → p d) : ∀ {as : List α} {ds : List D}, Al r as ds → ∀ d ∈ ds, p d
  | _, _, .nil, d, z => nomatch z
  | _, _, .cons h t, d, z => by
    rcases List.mem_cons.mp z with rfl | z
    · exact hp _ _ h
    · exact t.all hp d z
theorem Al.imp {r s : Rl α} (w : ∀ a d, r a d → s a d) : ∀ {as : List α} {ds : List D}, Al r as ds → Al s as ds
  | _, _, .nil => .nil
  | _, _, .cons h t => .cons (w _ _ h) (t.imp w)
theorem Al.map {r : Rl α} {s : Rl β} {f : α → β} {g : D → D} (w : ∀ a d, r a d → s (f a) (g d)) : ∀ {as : List α} {ds : List D}, Al r as ds → Al s (as.map f) (ds.map g)
  | _, _, .nil => .nil
  | _, _, .cons h t => .cons (w _ _ h) (t.map w)
theorem Al.drop {r : Rl α} : ∀ (n : Nat) {as : List α} {ds : List D}, Al r as ds → Al r (as.drop n) (ds.drop n)
  | 0, _, _, h => h
  | n + 1, _, _, .nil => .nil
  | n + 1, _, _, .cons _ t => t.drop n
theorem Al.take {r : Rl α} : ∀ (n : Nat) {as : List α} {ds : List D}, Al r as ds → Al r (as.take n) (ds.take n)
  | 0, _, _, h => .nil
  | n + 1, _, _, .nil => .nil
  | n + 1, _, _, .cons h t => .cons h (t.take n)
theorem Al.set {r : Rl α} {a : α} {d : D} (h : r a d) : ∀ (n : Nat) {as : List α} {ds : List D}, Al r as ds → Al r (as.set n a) (ds.set n d)
  | n, _, _, .nil => .nil
  | 0, _, _, .cons _ t => .cons h t
  | n + 1, _, _, .cons g t => .cons g (t.set h n)
theorem Al.rev {r : Rl α} : ∀ {as : List α} {ds : List D}, Al r as ds → Al r as.reverse ds.reverse
  | _, _, .nil => .nil
  | _, _, .cons h t => by
    rw [List.reverse_cons, List.reverse_cons]
    exact t.rev.app (.cons h .nil)
theorem Al.flat {r : Rl α} {as : List α} {ds : List D} (h : Al r as ds) : ∀ k : Nat, Al r (List.replicate k as).flatten (List.replicate k ds).flatten
  | 0 => .nil
  | k + 1 => by
    rw [List.replicate_succ, List.replicate_succ, List.flatten_cons, List.flatten_cons]
    exact h.app (h.flat k)
theorem Al.ints : ∀ {as : List Int} {ds : List D}, Al rI as ds → ds = as.map D.int
  | _, _, .nil => rfl
  | _, _, .cons h t => by
    have h : _ = D.int _ := h
    rw [h, t.ints]; rfl
theorem Al.of_ints : ∀ (as : List Int), Al rI as (as.map D.int)
  | [] => .nil
  | a :: as => .cons rfl (Al.of_ints as)
theorem Al.cut {r : Rl α} {as : List α} {ds : List D} (lo hi : Option Int) (h : Al r as ds) : Al r (cutA as lo hi) (cutA ds lo hi) := by
  unfold cutA
  rw [h.len]
  exact (h.drop _).take _

/-! ### what may be held, handed back, lent, frozen -/
class IsDup (r : Rl α) : Prop where
  h : ∀ {a d}, r a d → d.dup = true
class IsRet (r : Rl α) : Prop where
  h : ∀ {a d}, r a d → d.ret = true
class IsLen (r : Rl α) : Prop where
  h : ∀ {a d}, r a d → d.len = true
class Lnd (r s : Rl α) : Prop where
  h : ∀ {a d}, r a d → s a d.lend
class Frz (r s : Rl α) : Prop where
  h : ∀ {a d}, r a d → s a d.frz
class Wk (r s : Rl α) : Prop where
  h : ∀ {a d}, r a d → s a d
class NotNon (r : Rl α) : Prop where
  h : ∀ {a d}, r a d → d.isNon = false
class IsDups (r : Rls α) : Prop where
  h : ∀ {a d}, r a d → D.dupAll d = true
class IsRets (r : Rls α) : Prop where
  h : ∀ {a d}, r a d → D.retAll d = true
class IsLens (r : Rls α) : Prop where
  h : ∀ {a d}, r a d → D.lenAll d = true
class Lnds (r s : Rls α) : Prop where
  h : ∀ {a d}, r a d → s a (D.lendAll d)
class Frzs (r s : Rls α) : Prop where
  h : ∀ {a d}, r a d → s a (D.frzAll d)
class Wks (r s : Rls α) : Prop where
  h : ∀ {a d}, r a d → s a d
class MdLe (m m' : Md) : Prop where
  h : ∀ {k}, m.has k = true → m'.has k = true
instance (m : Md) : MdLe m m := ⟨id⟩
instance : MdLe .own .ret := ⟨fun {k} h => by cases k <;> first | rfl | cases h⟩
instance : MdLe .frz .ret := ⟨fun {k} h => by cases k <;> first | rfl | cases h⟩
instance : MdLe .frz .ro := ⟨fun {k} h => by cases k <;> first | rfl | cases h⟩
theorem Al.dup {r : Rl α} [IsDup r] {as : List α} {ds : List D} (h : Al r as ds) : D.dupAll ds = true := dupAll_iff.mpr (h.all (p := fun d => d.dup = true) fun _ _ => IsDup.h)
theorem Al.ret {r : Rl α} [IsRet r] {as : List α} {ds : List D} (h : Al r as ds) : D.retAll ds = true := retAll_iff.mpr (h.all (p := fun d => d.ret = true) fun _ _ => IsRet.h)
theorem lenAll_iff {xs : List D} : D.lenAll xs = true ↔ ∀ x ∈ xs, x.len = true := by
  induction xs with
  | nil => exact ⟨fun _ _ z => (nomatch z), fun _ => rfl⟩
  | cons x xs ih =>
    show (D.len x && D.lenAll xs) = true ↔ _
    rw [Bool.and_eq_true_iff, ih]
    simp
theorem Al.lena {r : Rl α} [IsLen r] {as : List α} {ds : List D} (h : Al r as ds) : D.lenAll ds = true := lenAll_iff.mpr (h.all (p := fun d => d.len = true) fun _ _ => IsLen.h)
theorem Al.lnd {r s : Rl α} [Lnd r s] : ∀ {as : List α} {ds : List D}, Al r as ds → Al s as (D.lendAll ds)
  | _, _, .nil => .nil
  | _, _, .cons h t => .cons (Lnd.h h) t.lnd
theorem Al.frz {r s : Rl α} [Frz r s] : ∀ {as : List α} {ds : List D}, Al r as ds → Al s as (D.frzAll ds)
  | _, _, .nil => .nil
  | _, _, .cons h t => .cons (Frz.h h) t.frz
instance : IsDup rI := ⟨fun h => by rw [show _ = D.int _ from h]; rfl⟩
instance : IsDup rB := ⟨fun h => by rw [show _ = D.bl _ from h]; rfl⟩
instance : IsDup rS := ⟨fun h => by rw [show _ = D.str _ from h]; rfl⟩
instance : IsDup rN := ⟨fun h => by rw [show _ = D.non from h]; rfl⟩
instance : IsDup rSc := ⟨fun h => by rw [show _ = D.scr _ from h]; rfl⟩
instance (r : Rl α) : IsDup (rL .frz r) := ⟨fun ⟨k, ds, hk, e, _⟩ => by subst e; cases k <;> first | rfl | cases hk⟩
instance (r : Rl α) : IsDup (rL .ro r) := ⟨fun ⟨k, ds, hk, e, _⟩ => by subst e; cases k <;> first | rfl | cases hk⟩
instance (r : Rl α) [IsDup r] : IsDup (rQ r) := ⟨fun ⟨ds, e, h⟩ => by subst e; exact h.dup⟩
instance (r : Rl α) [IsDup r] : IsDups (rs1 r) := ⟨fun ⟨d, e, h⟩ => by subst e; show (d.dup && true) = true; rw [IsDup.h h]; rfl⟩
instance (r : Rl α) (s : Rls β) [IsDup r] [IsDups s] : IsDups (rsC r s) := ⟨fun ⟨d, es, e, h, h2⟩ => by subst e; show (d.dup && D.dupAll es) = true; rw [IsDup.h h, IsDups.h h2]; rfl⟩
instance (s : Rls α) [IsDups s] : IsDup (rT s) := ⟨fun ⟨ds, e, h⟩ => by subst e; exact IsDups.h h⟩
instance (r : Rl α) [IsDup r] : IsDup (rO r) := ⟨fun {a d} h => by cases a with | none => rw [show d = .non from h]; rfl | some a => exact IsDup.h (r := r) (a := a) h⟩
instance (c : Str) (F : α → List (Str × (D → Prop))) : IsDup (rIns c F) := ⟨fun ⟨fl, e, _⟩ => by subst e; rfl⟩
instance : IsRet rI := ⟨fun h => by rw [show _ = D.int _ from h]; rfl⟩
instance : IsRet rB := ⟨fun h => by rw [show _ = D.bl _ from h]; rfl⟩
instance : IsRet rS := ⟨fun h => by rw [show _ = D.str _ from h]; rfl⟩
instance : IsRet rN := ⟨fun h => by rw [show _ = D.non from h]; rfl⟩
instance (r : Rl α) : IsRet (rL .frz r) := ⟨fun ⟨k, ds, hk, e, _⟩ => by subst e; cases k <;> first | rfl | cases hk⟩
instance (r : Rl α) : IsRet (rL .own r) := ⟨fun ⟨k, ds, hk, e, _⟩ => by subst e; cases k <;> first | rfl | cases hk⟩
instance (r : Rl α) : IsRet (rL .ret r) := ⟨fun ⟨k, ds, hk, e, _⟩ => by subst e; cases k <;> first | rfl | cases hk⟩
instance (r : Rl α) [IsRet r] : IsRet (rQ r) := ⟨fun ⟨ds, e, h⟩ => by subst e; exact h.ret⟩
instance (r : Rl α) [IsRet r] : IsRets (rs1 r) := ⟨fun ⟨d, e, h⟩ => by subst e; show (d.ret && true) = true; rw [IsRet.h h]; rfl⟩
instance (r : Rl α) (s : Rls β) [IsRet r] [IsRets s] : IsRets (rsC r s) := ⟨fun ⟨d, es, e, h, h2⟩ => by subst e; show (d.ret && D.retAll es) = true; rw [IsRet.h h, IsRets.h h2]; rfl⟩
instance (s : Rls α) [IsRets s] : IsRet (rT s) := ⟨fun ⟨ds, e, h⟩ => by subst e; exact IsRets.h h⟩
instance (r : Rl α) [IsRet r] : IsRet (rO r) := ⟨fun {a d} h => by cases a with | none => rw [show d = .non from h]; rfl | some a => exact IsRet.h (r := r) (a := a) h⟩
instance (c : Str) (F : α → List (Str × (D → Prop))) : IsRet (rIns c F) := ⟨fun ⟨fl, e, _⟩ => by subst e; rfl⟩
instance : IsLen rI := ⟨fun h => by rw [show _ = D.int _ from h]; rfl⟩
instance : IsLen rB := ⟨fun h => by rw [show _ = D.bl _ from h]; rfl⟩
instance : IsLen rS := ⟨fun h => by rw [show _ = D.str _ from h]; rfl⟩
instance : IsLen rN := ⟨fun h => by rw [show _ = D.non from h]; rfl⟩
instance : IsLen rSc := ⟨fun h => by rw [show _ = D.scr _ from h]; rfl⟩
theorem len_lst {k : LK} {ds : List D} (h : D.lenAll ds = true) : D.len (.lst k ds) = true := by cases k <;> first | rfl | exact h
instance (r : Rl α) : IsLen (rL .own r) := ⟨fun ⟨k, ds, hk, e, _⟩ => by subst e; cases k <;> first | rfl | cases hk⟩
instance (r : Rl α) : IsLen (rL .frz r) := ⟨fun ⟨k, ds, hk, e, _⟩ => by subst e; cases k <;> first | rfl | cases hk⟩
instance (r : Rl α) : IsLen (rL .ro r) := ⟨fun ⟨k, ds, hk, e, _⟩ => by subst e; cases k <;> first | rfl | cases hk⟩
instance (r : Rl α) : IsLen (rL .ret r) := ⟨fun ⟨k, ds, hk, e, _⟩ => by subst e; cases k <;> first | rfl | cases hk⟩
instance (r : Rl α) [IsLen r] : IsLen (rL .tmp r) := ⟨fun ⟨k, ds, hk, e, h⟩ => by subst e; exact len_lst h.lena⟩
instance (r : Rl α) [IsLen r] : IsLen (rQ r) := ⟨fun ⟨ds, e, h⟩ => by subst e; exact h.lena⟩
instance (r : Rl α) [IsLen r] : IsLens (rs1 r) := ⟨fun ⟨d, e, h⟩ => by subst e; show (d.len && true) = true; rw [IsLen.h h]; rfl⟩
instance (r : Rl α) (s : Rls β) [IsLen r] [IsLens s] : IsLens (rsC r s) := ⟨fun ⟨d, es, e, h, h2⟩ => by subst e; show (d.len && D.lenAll es) = true; rw [IsLen.h h, IsLens.h h2]; rfl⟩
instance (s : Rls α) [IsLens s] : IsLen (rT s) := ⟨fun ⟨ds, e, h⟩ => by subst e; exact IsLens.h h⟩
instance (r : Rl α) [IsLen r] : IsLen (rO r) := ⟨fun {a d} h => by cases a with | none => rw [show d = .non from h]; rfl | some a => exact IsLen.h (r := r) (a := a) h⟩
instance (c : Str) (F : α → List (Str × (D → Prop))) : IsLen (rIns c F) := ⟨fun ⟨fl, e, _⟩ => by subst e; rfl⟩
/-! weaker -/
instance : Wk rI rI := ⟨id⟩
instance : Wk rB rB := ⟨id⟩
instance : Wk rS rS := ⟨id⟩
instance : Wk rN rN := ⟨id⟩
instance : Wk rD rD := ⟨id⟩
instance : Wk rSc rSc := ⟨id⟩
instance (m m' : Md) (r s : Rl α) [MdLe m m'] [Wk r s] : Wk (rL m r) (rL m' s) := ⟨fun ⟨k, ds, hk, e, h⟩ => ⟨k, ds, MdLe.h hk, e, h.imp fun _ _ => Wk.h⟩⟩
instance (r s : Rl α) [Wk r s] : Wk (rQ r) (rQ s) := ⟨fun ⟨ds, e, h⟩ => ⟨ds, e, h.imp fun _ _ => Wk.h⟩⟩
instance (r s : Rl α) [Wk r s] : Wks (rs1 r) (rs1 s) := ⟨fun ⟨d, e, h⟩ => ⟨d, e, Wk.h h⟩⟩
instance (r r' : Rl α) (s s' : Rls β) [Wk r r'] [Wks s s'] : Wks (rsC r s) (rsC r' s') := ⟨fun ⟨d, es, e, h, h2⟩ => ⟨d, es, e, Wk.h h, Wks.h h2⟩⟩
instance (s s' : Rls α) [Wks s s'] : Wk (rT s) (rT s') := ⟨fun ⟨ds, e, h⟩ => ⟨ds, e, Wks.h h⟩⟩
instance (r s : Rl α) [Wk r s] : Wk (rO r) (rO s) := ⟨fun {a d} h => by cases a with | none => exact h | some a => exact Wk.h (r := r) (s := s) (a := a) h⟩
instance (c : Str) (F : α → List (Str × (D → Prop))) : Wk (rIns c F) (rIns c F) := ⟨id⟩
/-! lent -/
instance : Lnd rI rI := ⟨fun h => by rw [show _ = D.int _ from h]; rfl⟩
instance : Lnd rB rB := ⟨fun h => by rw [show _ = D.bl _ from h]; rfl⟩
instance : Lnd rS rS := ⟨fun h => by rw [show _ = D.str _ from h]; rfl⟩
instance : Lnd rN rN := ⟨fun h => by rw [show _ = D.non from h]; rfl⟩
instance : Lnd rSc rSc := ⟨fun h => by rw [show _ = D.scr _ from h]; rfl⟩
instance (r s : Rl α) [Lnd r s] : Lnd (rL .own r) (rL .ro s) := ⟨fun ⟨k, ds, hk, e, h⟩ => by
  subst e
  cases k <;> first | exact ⟨.bor, _, rfl, rfl, h.lnd⟩ | cases hk⟩
instance (r s : Rl α) [Lnd r s] : Lnd (rL .tmp r) (rL .ro s) := ⟨fun ⟨k, ds, hk, e, h⟩ => by
  subst e
  cases k <;> first | exact ⟨.bor, _, rfl, rfl, h.lnd⟩ | cases hk⟩
instance (r s : Rl α) [Wk r s] : Lnd (rL .frz r) (rL .ro s) := ⟨fun ⟨k, ds, hk, e, h⟩ => by
  subst e
  cases k <;> first | exact ⟨.frz, _, rfl, rfl, h.imp fun _ _ => Wk.h⟩ | cases hk⟩
instance (r s : Rl α) [Wk r s] : Lnd (rL .ro r) (rL .ro s) := ⟨fun ⟨k, ds, hk, e, h⟩ => by
  subst e
  cases k <;> first | exact ⟨.frz, _, rfl, rfl, h.imp fun _ _ => Wk.h⟩ | exact ⟨.bor, _, rfl, rfl, h.imp fun _ _ => Wk.h⟩ | cases hk⟩
instance (r s : Rl α) [Lnd r s] [Wk r s] : Lnd (rL .ret r) (rL .ro s) := ⟨fun ⟨k, ds, hk, e, h⟩ => by
  subst e
  cases k <;> first | exact ⟨.frz, _, rfl, rfl, h.imp fun _ _ => Wk.h⟩ | exact ⟨.bor, _, rfl, rfl, h.lnd⟩ | cases hk⟩
instance (r s : Rl α) [Lnd r s] : Lnd (rQ r) (rQ s) := ⟨fun ⟨ds, e, h⟩ => by subst e; exact ⟨_, rfl, h.lnd⟩⟩
instance (r s : Rl α) [Lnd r s] : Lnds (rs1 r) (rs1 s) := ⟨fun ⟨d, e, h⟩ => by subst e; exact ⟨_, rfl, Lnd.h h⟩⟩
instance (r r' : Rl α) (s s' : Rls β) [Lnd r r'] [Lnds s s'] : Lnds (rsC r s) (rsC r' s') := ⟨fun ⟨d, es, e, h, h2⟩ => by subst e; exact ⟨_, _, rfl, Lnd.h h, Lnds.h h2⟩⟩
instance (s s' : Rls α) [Lnds s s'] : Lnd (rT s) (rT s') := ⟨fun ⟨ds, e, h⟩ => by subst e; exact ⟨_, rfl, Lnds.h h⟩⟩
instance (r s : Rl α) [Lnd r s] : Lnd (rO r) (rO s) := ⟨fun {a d} h => by cases a with | none => rw [show d = .non from h]; rfl | some a => exact Lnd.h (r := r) (s := s) (a := a) h⟩
instance (c : Str) (F : α → List (Str × (D → Prop))) : Lnd (rIns c F) (rIns c F) := ⟨fun ⟨fl, e, h⟩ => by subst e; exact ⟨fl, rfl, h⟩⟩
/-! frozen -/
instance : Frz rI rI := ⟨fun h => by rw [show _ = D.int _ from h]; rfl⟩
instance : Frz rB rB := ⟨fun h => by rw [show _ = D.bl _ from h]; rfl⟩
instance : Frz rS rS := ⟨fun h => by rw [show _ = D.str _ from h]; rfl⟩
instance : Frz rN rN := ⟨fun h => by rw [show _ = D.non from h]; rfl⟩
instance (r s : Rl α) [Frz r s] : Frz (rL .own r) (rL .frz s) := ⟨fun ⟨k, ds, hk, e, h⟩ => by
  subst e
  cases k <;> first | exact ⟨.frz, _, rfl, rfl, h.frz⟩ | cases hk⟩
instance (r s : Rl α) [Wk r s] : Frz (rL .frz r) (rL .frz s) := ⟨fun ⟨k, ds, hk, e, h⟩ => by
  subst e
  cases k <;> first | exact ⟨.frz, _, rfl, rfl, h.imp fun _ _ => Wk.h⟩ | cases hk⟩
instance (r s : Rl α) [Frz r s] [Wk r s] : Frz (rL .ret r) (rL .frz s) := ⟨fun ⟨k, ds, hk, e, h⟩ => by
  subst e
  cases k <;> first | exact ⟨.frz, _, rfl, rfl, h.imp fun _ _ => Wk.h⟩ | exact ⟨.frz, _, rfl, rfl, h.frz⟩ | cases hk⟩
instance (r s : Rl α) [Frz r s] : Frz (rQ r) (rQ s) := ⟨fun ⟨ds, e, h⟩ => by subst e; exact ⟨_, rfl, h.frz⟩⟩
instance (r s : Rl α) [Frz r s] : Frzs (rs1 r) (rs1 s) := ⟨fun ⟨d, e, h⟩ => by subst e; exact ⟨_, rfl, Frz.h h⟩⟩
instance (r r' : Rl α) (s s' : Rls β) [Frz r r'] [Frzs s s'] : Frzs (rsC r s) (rsC r' s') := ⟨fun ⟨d, es, e, h, h2⟩ => by subst e; exact ⟨_, _, rfl, Frz.h h, Frzs.h h2⟩⟩
instance (s s' : Rls α) [Frzs s s'] : Frz (rT s) (rT s') := ⟨fun ⟨ds, e, h⟩ => by subst e; exact ⟨_, rfl, Frzs.h h⟩⟩
instance (r s : Rl α) [Frz r s] : Frz (rO r) (rO s) := ⟨fun {a d} h => by cases a with | none => rw [show d = .non from h]; rfl | some a => exact Frz.h (r := r) (s := s) (a := a) h⟩
instance (c : Str) (F : α → List (Str × (D → Prop))) : Frz (rIns c F) (rIns c F) := ⟨fun ⟨fl, e, h⟩ => by subst e; exact ⟨fl, rfl, h⟩⟩
/-! not None -/
instance : NotNon rI := ⟨fun h => by rw [show _ = D.int _ from h]; rfl⟩
instance : NotNon rB := ⟨fun h => by rw [show _ = D.bl _ from h]; rfl⟩
instance : NotNon rS := ⟨fun h => by rw [show _ = D.str _ from h]; rfl⟩
instance (m : Md) (r : Rl α) : NotNon (rL m r) := ⟨fun ⟨k, ds, hk, e, h⟩ => by subst e; rfl⟩
instance (r : Rl α) : NotNon (rQ r) := ⟨fun ⟨ds, e, h⟩ => by subst e; rfl⟩
instance (s : Rls α) : NotNon (rT s) := ⟨fun ⟨ds, e, h⟩ => by subst e; rfl⟩
instance (c : Str) (F : α → List (Str × (D → Prop))) : NotNon (rIns c F) := ⟨fun ⟨fl, e, h⟩ => by subst e; rfl⟩
/-! as a datum -/
class Enc (r : Rl α) (e : outParam (α → D)) : Prop where
  h : ∀ {a d}, r a d → d = e a
class Encs (r : Rls α) (e : outParam (α → List D)) : Prop where
  h : ∀ {a d}, r a d → d = e a
instance : Enc rI D.int := ⟨id⟩
instance : Enc rB D.bl := ⟨id⟩
instance : Enc rS D.str := ⟨id⟩
instance : Enc rN (fun _ => D.non) := ⟨id⟩
instance : Enc rD (fun d => d) := ⟨id⟩
theorem Al.enc {r : Rl α} {e : α → D} (w : ∀ a d, r a d → d = e a) : ∀ {as : List α} {ds : List D}, Al r as ds → ds = as.map e
  | _, _, .nil => rfl
  | _, _, .cons h t => by rw [w _ _ h, t.enc w]; rfl
instance (r : Rl α) (e : α → D) [Enc r e] : Enc (rL .own r) (fun as => .lst .own (as.map e)) := ⟨fun ⟨k, ds, hk, q, h⟩ => by
  subst q; cases k <;> first | (rw [h.enc (e := e) fun _ _ => Enc.h]; rfl; done) | (rw [h.enc (e := e) fun _ _ => Enc.h]; done) | cases hk⟩
instance (r : Rl α) (e : α → D) [Enc r e] : Enc (rL .frz r) (fun as => .lst .frz (as.map e)) := ⟨fun ⟨k, ds, hk, q, h⟩ => by
  subst q; cases k <;> first | (rw [h.enc (e := e) fun _ _ => Enc.h]; rfl; done) | (rw [h.enc (e := e) fun _ _ => Enc.h]; done) | cases hk⟩
instance (r : Rl α) (e : α → D) [Enc r e] : Enc (rQ r) (fun as => .tup (as.map e)) := ⟨fun ⟨ds, q, h⟩ => by subst q; rw [h.enc (e := e) fun _ _ => Enc.h]⟩
instance (r : Rl α) (e : α → D) [Enc r e] : Encs (rs1 r) (fun a => [e a]) := ⟨fun ⟨d, q, h⟩ => by subst q; rw [Enc.h h]⟩
instance (r : Rl α) (s : Rls β) (e : α → D) (f : β → List D) [Enc r e] [Encs s f] : Encs (rsC r s) (fun p => e p.1 :: f p.2) := ⟨fun ⟨d, es, q, h, h2⟩ => by subst q; rw [Enc.h h, Encs.h h2]⟩
instance (s : Rls α) (f : α → List D) [Encs s f] : Enc (rT s) (fun a => .tup (f a)) := ⟨fun ⟨ds, q, h⟩ => by subst q; rw [Encs.h h]⟩
def oEnc (e : α → D) : Option α → D
  | none => .non
  | some a => e a
instance (r : Rl α) (e : α → D) [Enc r e] : Enc (rO r) (oEnc e) := ⟨fun {a d} h => by cases a with | none => exact h | some a => exact Enc.h (r := r) (a := a) h⟩
end
end DH
/-! Typed readings of mirrors: expressions. -/
namespace DH
open PySem L2
section
variable {α β γ δ τ : Type}
/-- a typed answer and a mirror's -/
def RelE (r : Rl α) (T : Res α) (R : Res D) : Prop := match T with
  | .ok a => ∃ d, R = .ok d ∧ r a d
  | .err c fs => R = .err c fs
  | .stuck => True
def RelB (T : Res Bool) (R : Res Bool) : Prop := match T with
  | .ok a => R = .ok a
  | .err c fs => R = .err c fs
  | .stuck => True
abbrev Slot := Option D → Prop
def J : Slot := fun _ => True
def Sl (r : Rl α) (a : α) : Slot := fun o => ∃ d, o = some d ∧ r a d
inductive Env : List Slot → Rho → Prop
  | nil : Env [] []
  | cons {p : Slot} {o : Option D} {ps : List Slot} {os : Rho} : p o → Env ps os → Env (p :: ps) (o :: os)
inductive AtS : Nat → List Slot → Slot → Prop
  | z {p : Slot} {ps : List Slot} : AtS 0 (p :: ps) p
  | s {i : Nat} {p q : Slot} {ps : List Slot} : AtS i ps p → AtS (i + 1) (q :: ps) p
inductive UpS : Nat → List Slot → Slot → List Slot → Prop
  | z {p q : Slot} {ps : List Slot} : UpS 0 (q :: ps) p (p :: ps)
  | s {i : Nat} {p q : Slot} {ps qs : List Slot} : UpS i ps p qs → UpS (i + 1) (q :: ps) p (q :: qs)
inductive WkE : List Slot → List Slot → Prop
  | n : WkE [] []
  | s {p : Slot} {ps qs : List Slot} : WkE ps qs → WkE (p :: ps) (p :: qs)
  | j {p : Slot} {ps qs : List Slot} : WkE ps qs → WkE (p :: ps) (J :: qs)
  | w {κ : Type} {r s : Rl κ} {a : κ} {ps qs : List Slot} : Wk r s → WkE ps qs → WkE (Sl r a :: ps) (Sl s a :: qs)
  | g {p q : Slot} {ps qs : List Slot} : (∀ o, p o → q o) → WkE ps qs → WkE (p :: ps) (q :: qs)
theorem AtS.get : ∀ {i : Nat} {P : List Slot} {p : Slot} {ρ : Rho}, AtS i P p → Env P ρ → ∃ o, ρ[i]? = some o ∧ p o
  | _, _, _, _, .z, .cons h _ => ⟨_, rfl, h⟩
  | _, _, _, _, .s t, .cons _ e => by
    obtain ⟨o, e1, h⟩ := t.get e
    exact ⟨o, by simpa using e1, h⟩
theorem UpS.set : ∀ {i : Nat} {P Q : List Slot} {p : Slot} {ρ : Rho} {o : Option D}, UpS i P p Q → Env P ρ → p o → Env Q (ρ.set i o)
  | _, _, _, _, _, _, .z, .cons _ e, h => .cons h e
  | _, _, _, _, _, _, .s t, .cons h e, h' => .cons h (t.set e h')
theorem WkE.env : ∀ {P Q : List Slot} {ρ : Rho}, WkE P Q → Env P ρ → Env Q ρ
  | _, _, _, .n, e => e
  | _, _, _, .s t, .cons h e => .cons h (t.env e)
  | _, _, _, .j t, .cons h e => .cons trivial (t.env e)
  | _, _, _, .w i t, .cons ⟨d, e1, h⟩ e => .cons ⟨d, e1, i.h h⟩ (t.env e)
  | _, _, _, .g k t, .cons h e => .cons (k _ h) (t.env e)
def EvT (P : List Slot) (r : Rl α) (T : Res α) (e : Rho → Res D) : Prop := ∀ ρ, Env P ρ → RelE r T (e ρ)
def EtT (P : List Slot) (T : Res Bool) (e : Rho → Res Bool) : Prop := ∀ ρ, Env P ρ → RelB T (e ρ)
theorem RelE.bind {r : Rl α} {s : Rl β} {T : Res α} {R : Res D} {U : α → Res β} {k : D → Res D} (h : RelE r T R) (n : ∀ a d, r a d → RelE s (U a) (k d)) : RelE s (T.bind U) (R.bind k) := by
  cases T with
  | ok a =>
    obtain ⟨d, e, h⟩ := h
    subst e
    exact n a d h
  | err c fs =>
    have h : R = .err c fs := h
    subst h
    exact (rfl : (Res.err c fs : Res D) = _)
  | stuck => exact trivial
theorem RelE.bindL {r : Rl α} {T : Res α} {R : Res D} {U : α → Res β} {k : D → Res (List D)} {m : List D → Res D} {s : Rl β} (h : RelE r T R) (n : ∀ a d, r a d → RelE s (U a) ((k d).bind m)) : RelE s (T.bind U) ((R.bind k).bind m) := by
  cases T with
  | ok a =>
    obtain ⟨d, e, h⟩ := h
    subst e
    exact n a d h
  | err c fs =>
    have h : R = .err c fs := h
    subst h
    exact (rfl : (Res.err c fs : Res D) = _)
  | stuck => exact trivial
theorem RelE.wk {r s : Rl α} {T : Res α} {R : Res D} [w : Wk r s] (h : RelE r T R) : RelE s T R := by
  cases T with
  | ok a => obtain ⟨d, e, h⟩ := h; exact ⟨d, e, w.h h⟩
  | err c fs => exact h
  | stuck => exact trivial
theorem EvT.wk {P : List Slot} {r s : Rl α} {T : Res α} {e : Rho → Res D} [Wk r s] (h : EvT P r T e) : EvT P s T e := fun ρ E => (h ρ E).wk
variable {P : List Slot} {r ra : Rl α} {rb : Rl β} {rc : Rl γ} {rd : Rl δ} {T : Res α} {e e1 e2 e3 e4 : Rho → Res D} {es : Rho → Res (List D)} {a : α} {b : β} {c : γ} {T1 : Res α} {T2 : Res β} {g g' g2 : D → D → Res D}
/-! names, constants -/
theorem t_var {i : Nat} (h : AtS i P (Sl r a)) : EvT P r (.ok a) (eVar i) := fun ρ E => by
  obtain ⟨o, e, d, rfl, h⟩ := h.get E
  exact ⟨d, by rw [eVar_eq, e]; rfl, h⟩
theorem t_int {i : Int} : EvT P rI (.ok i) (eC (.int i)) := fun _ _ => ⟨_, rfl, rfl⟩
theorem t_bl {i : Bool} : EvT P rB (.ok i) (eC (.bl i)) := fun _ _ => ⟨_, rfl, rfl⟩
theorem t_str {i : Str} : EvT P rS (.ok i) (eC (.str i)) := fun _ _ => ⟨_, rfl, rfl⟩
theorem t_non : EvT P rN (.ok ()) (eC .non) := fun _ _ => ⟨_, rfl, rfl⟩
theorem t_none : EvT P (rO r) (.ok none) (eC .non) := fun _ _ => ⟨_, rfl, rfl⟩
theorem t_some (h : EvT P r (.ok a) e) : EvT P (rO r) (.ok (some a)) e := fun ρ E => h ρ E
theorem t_someR (h : EvT P r T e) : EvT P (rO r) (T.bind fun a => .ok (some a)) e := fun ρ E => by
  have h := h ρ E
  cases T with
  | ok a => exact h
  | err c fs => exact h
  | stuck => trivial
theorem t_noneN (h : EvT P rN (.ok ()) e) : EvT P (rO r) (.ok none) e := fun ρ E => by
  obtain ⟨d, e, h⟩ := h ρ E
  exact ⟨d, e, h⟩
theorem t_enc {en : α → D} [w : Enc r en] (h : EvT P r (.ok a) e) : EvT P rD (.ok (en a)) e := fun ρ E => by
  obtain ⟨d, e, h⟩ := h ρ E
  exact ⟨d, e, w.h h⟩
theorem t_encR {en : α → D} [w : Enc r en] (h : EvT P r T e) : EvT P rD (T.bind fun a => .ok (en a)) e := fun ρ E => by
  have h := h ρ E
  cases T with
  | ok a => obtain ⟨d, e, h⟩ := h; exact ⟨d, e, w.h h⟩
  | err c fs => exact h
  | stuck => trivial
theorem t_dup [w : IsDup r] (h : EvT P r T e) : EvT P r T (eDup e) := fun ρ E => by
  have h := h ρ E
  rw [eDup_eq]
  cases T with
  | ok a =>
    obtain ⟨d, e1, h⟩ := h
    rw [e1, rb_ok, dupK_of (w.h h)]
    exact ⟨d, rfl, h⟩
  | err c fs =>
    have h : e ρ = .err c fs := h
    rw [h]; exact (rfl : (Res.err c fs : Res D) = _)
  | stuck => trivial
theorem t_dupD {T : Res D} (h : EvT P rD T e) : EvT P rD (T.bind dupK) (eDup e) := fun ρ E => by
  rw [eDup_eq]
  exact (h ρ E).bind fun a d z => by
    have z : d = a := z
    subst z
    cases q : dupK d with
    | ok x => exact ⟨x, rfl, rfl⟩
    | err c fs => exact rfl
    | stuck => trivial
theorem t_frz {s : Rl α} [w : IsRet r] [v : Frz r s] (h : EvT P r T e) : EvT P s T (eFrz e) := fun ρ E => by
  have h := h ρ E
  rw [eFrz_eq]
  cases T with
  | ok a =>
    obtain ⟨d, e1, h⟩ := h
    rw [e1, rb_ok, frzK_of (w.h h)]
    exact ⟨_, rfl, v.h h⟩
  | err c fs =>
    have h : e ρ = .err c fs := h
    rw [h]; exact (rfl : (Res.err c fs : Res D) = _)
  | stuck => trivial
/-! two operands -/
theorem t_pp {T : Res γ} (h1 : EvT P ra (.ok a) e1) (h2 : EvT P rb (.ok b) e2) (o : ∀ {d e}, ra a d → rb b e → RelE rc T (g d e)) : EvT P rc T (eB2 g e1 e2) := fun ρ E => by
  obtain ⟨d, q1, z1⟩ := h1 ρ E
  obtain ⟨e', q2, z2⟩ := h2 ρ E
  rw [eB2_eq, q1, rb_ok, q2, rb_ok]
  exact o z1 z2
theorem t_rp {T : α → Res γ} (h1 : EvT P ra T1 e1) (h2 : EvT P rb (.ok b) e2) (o : ∀ a {d e}, ra a d → rb b e → RelE rc (T a) (g d e)) : EvT P rc (T1.bind T) (eB2 g e1 e2) := fun ρ E => by
  obtain ⟨e', q2, z2⟩ := h2 ρ E
  rw [eB2_eq]
  exact (h1 ρ E).bind fun a d z1 => by rw [q2, rb_ok]; exact o a z1 z2
theorem t_pr {T : β → Res γ} (h1 : EvT P ra (.ok a) e1) (h2 : EvT P rb T2 e2) (o : ∀ b {d e}, ra a d → rb b e → RelE rc (T b) (g d e)) : EvT P rc (T2.bind T) (eB2 g e1 e2) := fun ρ E => by
  obtain ⟨d, q1, z1⟩ := h1 ρ E
  rw [eB2_eq, q1, rb_ok]
  exact (h2 ρ E).bind fun b e z2 => o b z1 z2
theorem t_rr {T : α → β → Res γ} (h1 : EvT P ra T1 e1) (h2 : EvT P rb T2 e2) (o : ∀ a b {d e}, ra a d → rb b e → RelE rc (T a b) (g d e)) : EvT P rc (T1.bind fun a => T2.bind (T a)) (eB2 g e1 e2) := fun ρ E => by
  rw [eB2_eq]
  exact (h1 ρ E).bind fun a d z1 => (h2 ρ E).bind fun b e z2 => o a b z1 z2
theorem t_up {T : Res γ} {g : D → Res D} (h1 : EvT P ra (.ok a) e1) (o : ∀ {d}, ra a d → RelE rc T (g d)) : EvT P rc T (eU1 g e1) := fun ρ E => by
  obtain ⟨d, q1, z1⟩ := h1 ρ E
  rw [eU1_eq, q1, rb_ok]
  exact o z1
theorem t_ur {T : α → Res γ} {g : D → Res D} (h1 : EvT P ra T1 e1) (o : ∀ a {d}, ra a d → RelE rc (T a) (g d)) : EvT P rc (T1.bind T) (eU1 g e1) := fun ρ E => by
  rw [eU1_eq]
  exact (h1 ρ E).bind fun a d z1 => o a z1
/-! whole numbers -/
section
variable {i j k : Int} {d e' f : D}
theorem rel_ok {x : γ} {d : D} (h : rc x d) : RelE rc (.ok x) (.ok d) := ⟨d, rfl, h⟩
theorem o_add (h1 : rI i d) (h2 : rI j e') : RelE rI (.ok (i + j)) (addD d e') := by
  rw [show d = .int i from h1, show e' = .int j from h2]; exact rel_ok rfl
theorem o_sub (h1 : rI i d) (h2 : rI j e') : RelE rI (.ok (i - j)) (subD d e') := by
  rw [show d = .int i from h1, show e' = .int j from h2]; exact rel_ok rfl
theorem o_neg (h1 : rI i d) : RelE rI (.ok (-i)) (negD d) := by
  rw [show d = .int i from h1]; exact rel_ok rfl
/-- one factor stays below 2^64 -/
def mulR (i j : Int) : Res Int := if mulOk i j = true then .ok (i * j) else .stuck
theorem o_mul (h1 : rI i d) (h2 : rI j e') : RelE rI (mulR i j) (mulD d e') := by
  rw [show d = .int i from h1, show e' = .int j from h2, mulD_ii]
  unfold mulR
  by_cases c : mulOk i j = true
  · rw [if_pos c, if_pos c]; exact rel_ok rfl
  · rw [if_neg c]; trivial
theorem o_mull (k : -18446744073709551616 < i ∧ i < 18446744073709551616) (h1 : rI i d) (h2 : rI j e') : RelE rI (.ok (i * j)) (mulD d e') := by
  rw [show d = .int i from h1, show e' = .int j from h2, mulD_l k]; exact rel_ok rfl
theorem o_mulr (k : -18446744073709551616 < j ∧ j < 18446744073709551616) (h1 : rI i d) (h2 : rI j e') : RelE rI (.ok (i * j)) (mulD d e') := by
  rw [show d = .int i from h1, show e' = .int j from h2, mulD_r k]; exact rel_ok rfl
theorem mulR_l (h : -18446744073709551616 < i ∧ i < 18446744073709551616) : mulR i j = .ok (i * j) := if_pos (mulOk_l h.1 h.2)
theorem mulR_r (h : -18446744073709551616 < j ∧ j < 18446744073709551616) : mulR i j = .ok (i * j) := if_pos (mulOk_r h.1 h.2)
def fdivR (i j : Int) : Res Int := if j ≠ 0 ∧ j.natAbs < 1073741824 then .ok (i.fdiv j) else .stuck
theorem o_fdiv (h1 : rI i d) (h2 : rI j e') : RelE rI (fdivR i j) (fdivD d e') := by
  rw [show d = .int i from h1, show e' = .int j from h2]
  unfold fdivR
  by_cases c : j ≠ 0 ∧ j.natAbs < 1073741824
  · rw [if_pos c]; exact ⟨_, if_pos c, rfl⟩
  · rw [if_neg c]; trivial
theorem o_fdivl (k : 0 < j ∧ j < 1073741824) (h1 : rI i d) (h2 : rI j e') : RelE rI (.ok (i / j)) (fdivD d e') := by
  rw [show d = .int i from h1, show e' = .int j from h2, fdivD_ii k]; exact rel_ok rfl
theorem fdivR_pos (h : 0 < j ∧ j < 1073741824) : fdivR i j = .ok (i / j) := by
  unfold fdivR
  rw [if_pos ⟨by omega, by omega⟩, Int.fdiv_eq_ediv_of_nonneg _ (by omega)]
def modR (i j : Int) : Res Int := if j ≠ 0 then .ok (i.fmod j) else .stuck
theorem o_mod (h1 : rI i d) (h2 : rI j e') : RelE rI (modR i j) (modD d e') := by
  rw [show d = .int i from h1, show e' = .int j from h2]
  unfold modR
  by_cases c : j ≠ 0
  · rw [if_pos c]; exact ⟨_, if_pos c, rfl⟩
  · rw [if_neg c]; trivial
theorem o_modl (k : 0 < j) (h1 : rI i d) (h2 : rI j e') : RelE rI (.ok (i % j)) (modD d e') := by
  rw [show d = .int i from h1, show e' = .int j from h2, modD_ii k]; exact rel_ok rfl
theorem modR_pos (h : 0 < j) : modR i j = .ok (i % j) := by
  unfold modR
  rw [if_pos (by omega), Int.fmod_eq_emod_of_nonneg _ (by omega)]
def powR (i j : Int) : Res Int := if 0 ≤ j ∧ j ≤ 1000000 ∧ i.natAbs < 18446744073709551616 then .ok (i ^ j.toNat) else .stuck
theorem o_pow (h1 : rI i d) (h2 : rI j e') : RelE rI (powR i j) (powD d e') := by
  rw [show d = .int i from h1, show e' = .int j from h2]
  unfold powR
  by_cases c : 0 ≤ j ∧ j ≤ 1000000 ∧ i.natAbs < 18446744073709551616
  · rw [if_pos c]; exact ⟨_, if_pos c, rfl⟩
  · rw [if_neg c]; trivial
theorem o_powl {v : Int} (k : 0 ≤ j ∧ j ≤ 1000000 ∧ i.natAbs < 18446744073709551616) (hv : i ^ j.toNat = v) (h1 : rI i d) (h2 : rI j e') : RelE rI (.ok v) (powD d e') := by
  rw [show d = .int i from h1, show e' = .int j from h2, powD_ii k, hv]; exact rel_ok rfl
theorem o_lt (h1 : rI i d) (h2 : rI j e') : RelE rB (.ok (decide (i < j))) (ltD d e') := by
  rw [show d = .int i from h1, show e' = .int j from h2]; exact rel_ok rfl
theorem o_le (h1 : rI i d) (h2 : rI j e') : RelE rB (.ok (decide (i ≤ j))) (leD d e') := by
  rw [show d = .int i from h1, show e' = .int j from h2]; exact rel_ok rfl
theorem o_gt (h1 : rI i d) (h2 : rI j e') : RelE rB (.ok (decide (j < i))) (gtD d e') := by
  rw [show d = .int i from h1, show e' = .int j from h2]; exact rel_ok rfl
theorem o_ge (h1 : rI i d) (h2 : rI j e') : RelE rB (.ok (decide (j ≤ i))) (geD d e') := by
  rw [show d = .int i from h1, show e' = .int j from h2]; exact rel_ok rfl
theorem o_eqI (h1 : rI i d) (h2 : rI j e') : RelE rB (.ok (decide (i = j))) (eqD d e') := by
  rw [show d = .int i from h1, show e' = .int j from h2, eqD_ii]; exact rel_ok rfl
theorem o_neI (h1 : rI i d) (h2 : rI j e') : RelE rB (.ok (!decide (i = j))) (neD d e') := by
  rw [show d = .int i from h1, show e' = .int j from h2, neD_ii]; exact rel_ok rfl
theorem o_eqS {x y : Str} (h1 : rS x d) (h2 : rS y e') : RelE rB (.ok (decide (x = y))) (eqD d e') := by
  rw [show d = .str x from h1, show e' = .str y from h2, eqD_ss]; exact rel_ok rfl
theorem o_neS {x y : Str} (h1 : rS x d) (h2 : rS y e') : RelE rB (.ok (!decide (x = y))) (neD d e') := by
  rw [show d = .str x from h1, show e' = .str y from h2, neD_ss]; exact rel_ok rfl
theorem eqD_bb (a b : Bool) : eqD (.bl a) (.bl b) = .ok (.bl (decide (a = b))) := by cases a <;> cases b <;> rfl
theorem o_eqB {x y : Bool} (h1 : rB x d) (h2 : rB y e') : RelE rB (.ok (decide (x = y))) (eqD d e') := by
  rw [show d = .bl x from h1, show e' = .bl y from h2, eqD_bb]; exact rel_ok rfl
theorem o_neB {x y : Bool} (h1 : rB x d) (h2 : rB y e') : RelE rB (.ok (!decide (x = y))) (neD d e') := by
  rw [show d = .bl x from h1, show e' = .bl y from h2]
  unfold neD
  rw [eqD_bb]; exact rel_ok rfl
theorem o_isN {r : Rl α} [NotNon r] {a : Option α} (h1 : rO r a d) (h2 : rN () e') : RelE rB (.ok a.isNone) (isND d e') := by
  rw [show e' = .non from h2]
  cases a with
  | none => rw [show d = .non from h1]; exact rel_ok rfl
  | some a =>
    have z : d.isNon = false := NotNon.h (r := r) (a := a) h1
    exact ⟨.bl d.isNon, rfl, by rw [z]; rfl⟩
theorem o_isNot {r : Rl α} [NotNon r] {a : Option α} (h1 : rO r a d) (h2 : rN () e') : RelE rB (.ok a.isSome) (notND d e') := by
  rw [show e' = .non from h2]
  cases a with
  | none => rw [show d = .non from h1]; exact rel_ok rfl
  | some a =>
    have z : d.isNon = false := NotNon.h (r := r) (a := a) h1
    exact ⟨.bl (!d.isNon), rfl, by rw [z]; rfl⟩
theorem o_isNn {r : Rl α} [NotNon r] {a : α} (h1 : r a d) (h2 : rN () e') : RelE rB (.ok false) (isND d e') := by
  rw [show e' = .non from h2]
  exact ⟨.bl d.isNon, rfl, by rw [NotNon.h h1]; rfl⟩
theorem o_isB {x y : Bool} (h1 : rB x d) (h2 : rB y e') : RelE rB (.ok (decide (x = y))) (isND d e') := by
  rw [show d = .bl x from h1, show e' = .bl y from h2]; exact rel_ok rfl
theorem o_isNotB {x y : Bool} (h1 : rB x d) (h2 : rB y e') : RelE rB (.ok (!decide (x = y))) (notND d e') := by
  rw [show d = .bl x from h1, show e' = .bl y from h2]; exact rel_ok rfl
/-- data without a type -/
theorem o_D {d e' : D} {x y : D} (h1 : rD x d) (h2 : rD y e') : RelE rD (g x y) (g d e') := by
  rw [show d = x from h1, show e' = y from h2]
  cases g x y with
  | ok z => exact ⟨z, rfl, rfl⟩
  | err c fs => exact rfl
  | stuck => trivial
theorem o_D1 {g : D → Res D} {d : D} {x : D} (h1 : rD x d) : RelE rD (g x) (g d) := by
  rw [show d = x from h1]
  cases g x with
  | ok z => exact ⟨z, rfl, rfl⟩
  | err c fs => exact rfl
  | stuck => trivial
end
/-! chains -/
theorem t_ch2 {p q : Bool} (h1 : EvT P ra (.ok a) e1) (h2 : EvT P rb (.ok b) e2) (h3 : EvT P rc (.ok c) e3) (o1 : ∀ {d e}, ra a d → rb b e → RelE rB (.ok p) (g d e)) (o2 : ∀ {d e}, rb b d → rc c e → RelE rB (.ok q) (g' d e)) : EvT P rB (.ok (p && q)) (eCh2 g g' e1 e2 e3) := fun ρ E => by
  obtain ⟨d1, q1, z1⟩ := h1 ρ E
  obtain ⟨d2, q2, z2⟩ := h2 ρ E
  obtain ⟨d3, q3, z3⟩ := h3 ρ E
  obtain ⟨x, q4, z4⟩ := o1 z1 z2
  obtain ⟨y, q5, z5⟩ := o2 z2 z3
  have z4 : x = .bl p := z4
  have z5 : y = .bl q := z5
  subst z4; subst z5
  rw [eCh2_eq, q1, rb_ok, q2, rb_ok, thenD_eq, q4, rb_ok, q3, rb_ok, q5, thenK_bl]
  cases p
  · exact ⟨_, rfl, rfl⟩
  · exact ⟨_, rfl, rfl⟩
theorem t_ch2r {p : α → β → Bool} {T3 : Res γ} {q : β → γ → Bool} (h1 : EvT P ra T1 e1) (h2 : EvT P rb T2 e2) (h3 : EvT P rc T3 e3) (o1 : ∀ a b {d e}, ra a d → rb b e → RelE rB (.ok (p a b)) (g d e)) (o2 : ∀ b c {d e}, rb b d → rc c e → RelE rB (.ok (q b c)) (g' d e)) :
    EvT P rB (T1.bind fun a => T2.bind fun b => if p a b = true then T3.bind fun c => .ok (q b c) else .ok false) (eCh2 g g' e1 e2 e3) := fun ρ E => by
  rw [eCh2_eq]
  refine (h1 ρ E).bind fun a d z1 => (h2 ρ E).bind fun b e z2 => ?_
  obtain ⟨x, q4, z4⟩ := o1 a b z1 z2
  have z4 : x = .bl (p a b) := z4
  subst z4
  rw [thenD_eq, q4, rb_ok, thenK_bl]
  cases p a b
  · exact ⟨_, rfl, rfl⟩
  · exact (h3 ρ E).bind fun c f z3 => o2 b c z2 z3
theorem t_ch3 {p q s : Bool} {d0 : δ} (h1 : EvT P ra (.ok a) e1) (h2 : EvT P rb (.ok b) e2) (h3 : EvT P rc (.ok c) e3) (h4 : EvT P rd (.ok d0) e4) (o1 : ∀ {d e}, ra a d → rb b e → RelE rB (.ok p) (g d e)) (o2 : ∀ {d e}, rb b d → rc c e → RelE rB (.ok q) (g' d e))
    (o3 : ∀ {d e}, rc c d → rd d0 e → RelE rB (.ok s) (g2 d e)) : EvT P rB (.ok (p && (q && s))) (eCh3 g g' g2 e1 e2 e3 e4) := fun ρ E => by
  obtain ⟨d1, q1, z1⟩ := h1 ρ E
  obtain ⟨d2, q2, z2⟩ := h2 ρ E
  obtain ⟨d3, q3, z3⟩ := h3 ρ E
  obtain ⟨d4, q4, z4⟩ := h4 ρ E
  obtain ⟨x, y1, w1⟩ := o1 z1 z2
  obtain ⟨x2, y2, w2⟩ := o2 z2 z3
  obtain ⟨x3, y3, w3⟩ := o3 z3 z4
  have w1 : x = .bl p := w1
  have w2 : x2 = .bl q := w2
  have w3 : x3 = .bl s := w3
  subst w1; subst w2; subst w3
  rw [eCh3_eq, q1, rb_ok, q2, rb_ok, thenD_eq, y1, rb_ok, q3, rb_ok, thenD_eq, y2, rb_ok, q4, rb_ok, y3, thenK_bl, thenK_bl]
  cases p <;> cases q <;> exact ⟨_, rfl, rfl⟩
/-! arguments one by one -/
def KA (P : List Slot) (es : Rho → Res (List D)) (r : Rl γ) (k : List D → Res D) (T : Res γ) : Prop := ∀ ρ, Env P ρ → RelE r T ((es ρ).bind k)
theorem ka_n {k : List D → Res D} {T : Res γ} (h : RelE rc T (k [])) : KA P aNil rc k T := fun ρ E => h
theorem ka_p {k : List D → Res D} {T : Res γ} (h : EvT P ra (.ok a) e) (n : ∀ {d}, ra a d → KA P es rc (fun ds => k (d :: ds)) T) : KA P (aCons e es) rc k T := fun ρ E => by
  obtain ⟨d, q, z⟩ := h ρ E
  have n := n z ρ E
  rw [aCons_eq, q, rb_ok]
  cases w : es ρ with
  | ok ds => rw [w] at n; exact n
  | err c fs => rw [w] at n; exact n
  | stuck => rw [w] at n; exact n
theorem ka_r {k : List D → Res D} {T : α → Res γ} (h : EvT P ra T1 e) (n : ∀ a {d}, ra a d → KA P es rc (fun ds => k (d :: ds)) (T a)) : KA P (aCons e es) rc k (T1.bind T) := fun ρ E => by
  rw [aCons_eq]
  refine (h ρ E).bindL fun a d z => ?_
  have n := n a z ρ E
  cases w : es ρ with
  | ok ds => rw [w] at n; exact n
  | err c fs => rw [w] at n; exact n
  | stuck => rw [w] at n; exact n
theorem t_N {g : List D → Res D} {T : Res γ} (h : KA P es rc g T) : EvT P rc T (eN g es) := h
theorem t_call {n : Nat} {m : List D → Res D} {T : Res γ} (h : KA P es rc (callD n m) T) : EvT P rc T (eCall n m es) := h
theorem t_make {c : Str} {n : Nat} {m : List D → Res (List (Str × D))} {T : Res γ} (h : KA P es rc (makeD c n m) T) : EvT P rc T (eMake c n m es) := h
def tupK (ds : List D) : Res D := if ds.length ≤ LINE then .ok (.tup ds) else .stuck
def lstK (ds : List D) : Res D := if ds.length ≤ LINE ∧ D.retAll ds = true then .ok (.lst .own ds) else .stuck
def tmpK (ds : List D) : Res D := if ds.length ≤ LINE then .ok (.lst .tmp ds) else .stuck
theorem t_tup {T : Res γ} (h : KA P es rc tupK T) : EvT P rc T (eTup es) := h
theorem t_lst {T : Res γ} (h : KA P es rc lstK T) : EvT P rc T (eLst es) := h
theorem t_tmp {T : Res γ} (h : KA P es rc tmpK T) : EvT P rc T (eTmp es) := h
theorem line1000 {n : Nat} (h : n ≤ 1000) : n ≤ LINE := Nat.le_trans h (by decide)
theorem k_tup {s : Rls α} {ds : List D} (h : s a ds) (hl : ds.length ≤ 1000 := by exact Nat.le_of_ble_eq_true rfl) : RelE (rT s) (.ok a) (tupK ds) := ⟨_, if_pos (line1000 hl), _, rfl, h⟩
theorem k_tupQ {as : List α} {ds : List D} (h : Al r as ds) (hl : ds.length ≤ 1000 := by exact Nat.le_of_ble_eq_true rfl) : RelE (rQ r) (.ok as) (tupK ds) := ⟨_, if_pos (line1000 hl), _, rfl, h⟩
theorem k_lst [IsRet r] {as : List α} {ds : List D} (h : Al r as ds) (hl : ds.length ≤ 1000 := by exact Nat.le_of_ble_eq_true rfl) : RelE (rL .own r) (.ok as) (lstK ds) := ⟨_, if_pos ⟨line1000 hl, h.ret⟩, _, _, rfl, rfl, h⟩
theorem k_tmp {as : List α} {ds : List D} (h : Al r as ds) (hl : ds.length ≤ 1000 := by exact Nat.le_of_ble_eq_true rfl) : RelE (rL .tmp r) (.ok as) (tmpK ds) := ⟨_, if_pos (line1000 hl), _, _, rfl, rfl, h⟩
theorem s_1 {d : D} (h : r a d) : rs1 r a [d] := ⟨d, rfl, h⟩
theorem s_c {s : Rls β} {d : D} {ds : List D} (h : r a d) (t : s b ds) : rsC r s (a, b) (d :: ds) := ⟨d, ds, rfl, h, t⟩
/-! calls -/
theorem arg_ok {ra rp : Rl α} {a : α} {d : D} [l : IsLen ra] [p : Lnd ra rp] (h : ra a d) : d.len = true ∧ rp a d.lend := ⟨l.h h, p.h h⟩
theorem callD_of {n : Nat} {m : List D → Res D} {ds : List D} (hn : ds.length = n) (hl : D.lenAll ds = true) : callD n m ds = m (D.lendAll ds) := if_pos ⟨hn, hl⟩
theorem makeD_of {c : Str} {n : Nat} {m : List D → Res (List (Str × D))} {ds : List D} (hn : ds.length = n) (hl : D.lenAll ds = true) : makeD c n m ds = (m (D.lendAll ds)).bind fun fs => .ok (.ins c fs) := if_pos ⟨hn, hl⟩
/-- arguments as they stand in the callee -/
inductive Args : List D → List D → Prop
  | n : Args [] []
  | c {d : D} {ds es : List D} : d.len = true → Args ds es → Args (d :: ds) (d.lend :: es)
theorem Args.ok : ∀ {ds es : List D}, Args ds es → D.lenAll ds = true ∧ D.lendAll ds = es
  | _, _, .n => ⟨rfl, rfl⟩
  | _, _, .c h t => by
    obtain ⟨h1, h2⟩ := t.ok
    refine ⟨?_, ?_⟩
    · show (D.len _ && D.lenAll _) = true
      rw [h, h1]; rfl
    · show _ :: D.lendAll _ = _
      rw [h2]
theorem call_of {n : Nat} {m : List D → Res D} {ds es : List D} {T : Res γ} (A : Args ds es) (h : RelE rc T (m es)) (hn : ds.length = n := by rfl) : RelE rc T (callD n m ds) := by
  obtain ⟨h1, h2⟩ := A.ok
  rw [callD_of hn h1, h2]; exact h
def RelI (F : α → List (Str × (D → Prop))) (T : Res α) (R : Res (List (Str × D))) : Prop := match T with
  | .ok a => ∃ fl, R = .ok fl ∧ PF (F a) fl
  | .err c fs => R = .err c fs
  | .stuck => True
theorem make_of {c : Str} {F : α → List (Str × (D → Prop))} {n : Nat} {m : List D → Res (List (Str × D))} {ds es : List D} {T : Res α} (A : Args ds es) (h : RelI F T (m es)) (hn : ds.length = n := by rfl) : RelE (rIns c F) T (makeD c n m ds) := by
  obtain ⟨h1, h2⟩ := A.ok
  rw [makeD_of hn h1, h2]
  cases T with
  | ok a => obtain ⟨fl, e, h⟩ := h; rw [e]; exact ⟨_, rfl, fl, rfl, h⟩
  | err c fs => rw [show m es = .err c fs from h]; exact (rfl : (Res.err c fs : Res D) = _)
  | stuck => trivial
theorem ag {ra : Rl α} [IsLen ra] {d : D} (h : ra a d) {ds es : List D} (t : Args ds es) : Args (d :: ds) (d.lend :: es) := .c (IsLen.h h) t
theorem lg {ra rp : Rl α} [Lnd ra rp] {d : D} (h : ra a d) : rp a d.lend := Lnd.h h
theorem PF.lookup {f : Str} {p : D → Prop} : ∀ {F : List (Str × (D → Prop))} {fl : List (Str × D)}, PF F fl → F.lookup f = some p → ∃ d, fl.lookup f = some d ∧ p d
  | _, _, .nil, e => nomatch e
  | (f', p') :: F, _, .cons (d := d) (ds := ds) h t, e => by
    by_cases c : f = f'
    · subst c
      simp only [List.lookup, beq_self_eq_true] at e ⊢
      cases e
      exact ⟨d, rfl, h⟩
    · have c' : (f == f') = false := by simpa using c
      simp only [List.lookup, c'] at e ⊢
      exact t.lookup e
theorem PF.lookup_none {f : Str} : ∀ {F : List (Str × (D → Prop))} {fl : List (Str × D)}, PF F fl → F.lookup f = none → fl.lookup f = none
  | _, _, .nil, e => rfl
  | (f', p') :: F, _, .cons (d := d) (ds := ds) h t, e => by
    by_cases c : f = f'
    · subst c
      simp only [List.lookup, beq_self_eq_true] at e
      cases e
    · have c' : (f == f') = false := by simpa using c
      simp only [List.lookup, c'] at e ⊢
      exact t.lookup_none e
/-- a field -/
theorem t_fld {c f : Str} {F : α → List (Str × (D → Prop))} {b : β} (h : EvT P (rIns c F) (.ok a) e) (hf : (F a).lookup f = some (rb b)) : EvT P rb (.ok b) (eU1 (fldD f) e) := t_up h fun ⟨fl, e, hp⟩ => by
  subst e
  obtain ⟨d, q, z⟩ := hp.lookup hf
  refine ⟨d, ?_, z⟩
  show fldF f fl = _
  unfold fldF
  rw [q]
theorem t_fldr {c f : Str} {F : α → List (Str × (D → Prop))} {q : α → β} (h : EvT P (rIns c F) T e) (hf : ∀ a, (F a).lookup f = some (rb (q a))) : EvT P rb (T.bind fun a => .ok (q a)) (eU1 (fldD f) e) := t_ur h fun a d ⟨fl, e, hp⟩ => by
  subst e
  obtain ⟨d, q, z⟩ := hp.lookup (hf a)
  refine ⟨d, ?_, z⟩
  show fldF f fl = _
  unfold fldF
  rw [q]
/-- a method -/
theorem t_meth {c mn : Str} {F : α → List (Str × (D → Prop))} {n : Nat} {m : List D → Res D} {T : Res γ} (h : EvT P (rIns c F) (.ok a) e) (hm : (F a).lookup mn = none) (k : ∀ {d}, rIns c F a d → KA P es rc (fun ds => callD n m (d :: ds)) T) : EvT P rc T (eMeth c mn n m e es) := fun ρ E => by
  obtain ⟨d, q, z⟩ := h ρ E
  have k := k z ρ E
  obtain ⟨fl, rfl, hp⟩ := z
  rw [eMeth_eq, q, rb_ok, methK_at (by rw [hp.lookup_none hm]; rfl)]
  exact k
theorem t_methr {c mn : Str} {F : α → List (Str × (D → Prop))} {n : Nat} {m : List D → Res D} {U : α → Res γ} (h : EvT P (rIns c F) T e) (hm : ∀ a, (F a).lookup mn = none) (k : ∀ a {d}, rIns c F a d → KA P es rc (fun ds => callD n m (d :: ds)) (U a)) : EvT P rc (T.bind U) (eMeth c mn n m e es) := fun ρ E => by
  rw [eMeth_eq]
  refine (h ρ E).bind fun a d z => ?_
  have k := k a z ρ E
  obtain ⟨fl, rfl, hp⟩ := z
  rw [methK_at (by rw [hp.lookup_none (hm a)]; rfl)]
  exact k
end
end DH
/-! Typed readings of mirrors: items, slices, built-ins, tests, comprehensions, comparing. -/
namespace DH
open PySem L2
section
variable {α β γ δ τ : Type} {P : List Slot} {r ra : Rl α} {rb : Rl β} {rc : Rl γ} {rd : Rl δ} {T : Res α} {e e1 e2 e3 e4 : Rho → Res D} {es : Rho → Res (List D)} {a : α} {b : β} {c : γ} {T1 : Res α} {T2 : Res β} {g g' g2 : D → D → Res D} {m m' : Md} {i j : Int} {d d' : D} {xs ys : List α}
/-! items -/
def ixR (xs : List α) (i : Int) : Res α := match atI xs i with
  | some a => .ok a
  | none => .stuck
theorem Al.ix {ds : List D} (h : Al r xs ds) : RelE r (ixR xs i) (ixA ds i .ok) := by
  unfold ixR ixA atI
  rw [h.len]
  cases z : ixN xs.length i with
  | none => exact trivial
  | some n =>
    show RelE r (match xs[n]? with | some a => Res.ok a | none => .stuck) _
    cases w : xs[n]? with
    | none => exact trivial
    | some a =>
      obtain ⟨d, e, h⟩ := h.get w
      refine ⟨d, ?_, h⟩
      rw [Option.bind_some, e]
theorem o_ixL (h1 : rL m r xs d) (h2 : rI i d') : RelE r (ixR xs i) (ixD d d') := by
  obtain ⟨k, ds, _, rfl, h⟩ := h1
  rw [show d' = .int i from h2]
  exact h.ix
theorem o_ixQ (h1 : rQ r xs d) (h2 : rI i d') : RelE r (ixR xs i) (ixD d d') := by
  obtain ⟨ds, rfl, h⟩ := h1
  rw [show d' = .int i from h2]
  exact h.ix
theorem o_ixSc {ns : List Int} (h1 : rSc ns d) (h2 : rI i d') : RelE rI (ixR ns i) (ixD d d') := by
  rw [show d = .scr ns from h1, show d' = .int i from h2]
  show RelE rI (ixR ns i) (ixA ns i fun n => .ok (.int n))
  unfold ixR ixA
  cases atI ns i with
  | none => trivial
  | some n => exact rel_ok rfl
theorem ixR_nat {n : Nat} {a : α} (h : xs[n]? = some a) : ixR xs (n : Int) = .ok a := by unfold ixR; rw [atI_nat, h]
theorem ixR_int {a : α} (h0 : 0 ≤ i) (h : xs[i.toNat]? = some a) : ixR xs i = .ok a := by
  have e : i = (i.toNat : Int) := by omega
  rw [e]; exact ixR_nat h
theorem ixR_lt {i : Int} (h0 : 0 ≤ i) (h : i < xs.length) : ixR xs i = .ok (xs[i.toNat]'(by omega)) := ixR_int h0 (List.getElem?_eq_getElem (by omega))
theorem ixR_last {a : α} (h : xs.getLast? = some a) : ixR xs (-1) = .ok a := by
  have hl : xs ≠ [] := fun z => by rw [z] at h; cases h
  have hp : 0 < xs.length := List.length_pos_iff.mpr hl
  have e : atI xs (-1) = some a := by
    unfold atI ixN
    rw [List.getLast?_eq_getElem?] at h
    rw [if_neg (by omega), if_pos (by omega)]
    have c2 : (-1 + (xs.length : Int)).toNat = xs.length - 1 := by omega
    show xs[(-1 + (xs.length : Int)).toNat]? = some a
    rw [c2]
    exact h
  unfold ixR; rw [e]
@[simp] theorem ixR_0 {a : α} {as : List α} : ixR (a :: as) 0 = .ok a := ixR_nat (n := 0) rfl
@[simp] theorem ixR_1 {a a' : α} {as : List α} : ixR (a :: a' :: as) 1 = .ok a' := ixR_nat (n := 1) rfl
@[simp] theorem ixR_2 {a a' a2 : α} {as : List α} : ixR (a :: a' :: a2 :: as) 2 = .ok a2 := ixR_nat (n := 2) rfl
@[simp] theorem ixR_3 {a a' a2 a3 : α} {as : List α} : ixR (a :: a' :: a2 :: a3 :: as) 3 = .ok a3 := ixR_nat (n := 3) rfl
section
variable {α0 α1 α2 α3 α4 α5 : Type} {r0 : Rl α0} {r1 : Rl α1} {r2 : Rl α2} {r3 : Rl α3} {r4 : Rl α4} {r5 : Rl α5} {s : Rls τ}
theorem tup_at {s : Rls τ} {t : τ} {d d' : D} {n : Nat} {x : α} (h : rT s t d) (h2 : d' = .int (n : Int)) (k : ∀ ds, s t ds → ∃ y, ds[n]? = some y ∧ r x y) : RelE r (.ok x) (ixD d d') := by
  obtain ⟨ds, rfl, h⟩ := h
  obtain ⟨y, e, h3⟩ := k ds h
  subst h2
  exact ⟨y, by rw [ixD_tup, ixA_nat e], h3⟩
theorem o_t0 {t : α0 × τ} (h : rT (rsC r0 s) t d) (h2 : rI 0 d') : RelE r0 (.ok t.1) (ixD d d') := tup_at (n := 0) h h2 fun ds ⟨x, _, e, h, _⟩ => ⟨x, by rw [e]; rfl, h⟩
theorem o_t0e {t : α0} (h : rT (rs1 r0) t d) (h2 : rI 0 d') : RelE r0 (.ok t) (ixD d d') := tup_at (n := 0) h h2 fun ds ⟨x, e, h⟩ => ⟨x, by rw [e]; rfl, h⟩
theorem o_t1 {t : α0 × α1 × τ} (h : rT (rsC r0 (rsC r1 s)) t d) (h2 : rI 1 d') : RelE r1 (.ok t.2.1) (ixD d d') := tup_at (n := 1) h h2 fun ds ⟨_, _, e, _, x, _, e', h, _⟩ => ⟨x, by rw [e, e']; rfl, h⟩
theorem o_t1e {t : α0 × α1} (h : rT (rsC r0 (rs1 r1)) t d) (h2 : rI 1 d') : RelE r1 (.ok t.2) (ixD d d') := tup_at (n := 1) h h2 fun ds ⟨_, _, e, _, x, e', h⟩ => ⟨x, by rw [e, e']; rfl, h⟩
theorem o_t2 {t : α0 × α1 × α2 × τ} (h : rT (rsC r0 (rsC r1 (rsC r2 s))) t d) (h2 : rI 2 d') : RelE r2 (.ok t.2.2.1) (ixD d d') := tup_at (n := 2) h h2 fun ds ⟨_, _, e, _, _, _, e', _, x, _, e2, h, _⟩ => ⟨x, by rw [e, e', e2]; rfl, h⟩
theorem o_t2e {t : α0 × α1 × α2} (h : rT (rsC r0 (rsC r1 (rs1 r2))) t d) (h2 : rI 2 d') : RelE r2 (.ok t.2.2) (ixD d d') := tup_at (n := 2) h h2 fun ds ⟨_, _, e, _, _, _, e', _, x, e2, h⟩ => ⟨x, by rw [e, e', e2]; rfl, h⟩
theorem o_t3 {t : α0 × α1 × α2 × α3 × τ} (h : rT (rsC r0 (rsC r1 (rsC r2 (rsC r3 s)))) t d) (h2 : rI 3 d') : RelE r3 (.ok t.2.2.2.1) (ixD d d') := tup_at (n := 3) h h2 fun ds ⟨_, _, e, _, _, _, e', _, _, _, e2, _, x, _, e3, h, _⟩ => ⟨x, by rw [e, e', e2, e3]; rfl, h⟩
theorem o_t3e {t : α0 × α1 × α2 × α3} (h : rT (rsC r0 (rsC r1 (rsC r2 (rs1 r3)))) t d) (h2 : rI 3 d') : RelE r3 (.ok t.2.2.2) (ixD d d') := tup_at (n := 3) h h2 fun ds ⟨_, _, e, _, _, _, e', _, _, _, e2, _, x, e3, h⟩ => ⟨x, by rw [e, e', e2, e3]; rfl, h⟩
theorem o_t4 {t : α0 × α1 × α2 × α3 × α4 × τ} (h : rT (rsC r0 (rsC r1 (rsC r2 (rsC r3 (rsC r4 s))))) t d) (h2 : rI 4 d') : RelE r4 (.ok t.2.2.2.2.1) (ixD d d') := tup_at (n := 4) h h2 fun ds ⟨_, _, e, _, _, _, e', _, _, _, e2, _, _, _, e3, _, x, _, e4, h, _⟩ => ⟨x, by rw [e, e', e2, e3, e4]; rfl, h⟩
theorem o_t4e {t : α0 × α1 × α2 × α3 × α4} (h : rT (rsC r0 (rsC r1 (rsC r2 (rsC r3 (rs1 r4))))) t d) (h2 : rI 4 d') : RelE r4 (.ok t.2.2.2.2) (ixD d d') := tup_at (n := 4) h h2 fun ds ⟨_, _, e, _, _, _, e', _, _, _, e2, _, _, _, e3, _, x, e4, h⟩ => ⟨x, by rw [e, e', e2, e3, e4]; rfl, h⟩
theorem o_t5 {t : α0 × α1 × α2 × α3 × α4 × α5 × τ} (h : rT (rsC r0 (rsC r1 (rsC r2 (rsC r3 (rsC r4 (rsC r5 s)))))) t d) (h2 : rI 5 d') : RelE r5 (.ok t.2.2.2.2.2.1) (ixD d d') := tup_at (n := 5) h h2 fun ds ⟨_, _, e, _, _, _, e', _, _, _, e2, _, _, _, e3, _, _, _, e4, _, x, _, e5, h, _⟩ => ⟨x, by rw [e, e', e2, e3, e4, e5]; rfl, h⟩
theorem o_t5e {t : α0 × α1 × α2 × α3 × α4 × α5} (h : rT (rsC r0 (rsC r1 (rsC r2 (rsC r3 (rsC r4 (rs1 r5)))))) t d) (h2 : rI 5 d') : RelE r5 (.ok t.2.2.2.2.2) (ixD d d') := tup_at (n := 5) h h2 fun ds ⟨_, _, e, _, _, _, e', _, _, _, e2, _, _, _, e3, _, _, _, e4, _, x, e5, h⟩ => ⟨x, by rw [e, e', e2, e3, e4, e5]; rfl, h⟩
end
/-! lists joined, repeated, cut -/
class ElOk (m : Md) (r : Rl α) : Prop where
  h : ∀ {k as ds}, m.has k = true → Al r as ds → elOk k ds = true
instance [IsDup r] : ElOk .own r := ⟨fun {k as ds} hk h => by cases k <;> first | exact h.dup | cases hk⟩
instance : ElOk .frz r := ⟨fun {k as ds} hk h => by cases k <;> first | rfl | cases hk⟩
instance [IsRet r] : ElOk .ro r := ⟨fun {k as ds} hk h => by cases k <;> first | rfl | exact h.ret | cases hk⟩
instance [IsDup r] : ElOk .ret r := ⟨fun {k as ds} hk h => by cases k <;> first | rfl | exact h.dup | cases hk⟩
instance [IsDup r] [IsRet r] : ElOk .tmp r := ⟨fun {k as ds} hk h => by cases k <;> first | exact Bool.and_eq_true_iff.mpr ⟨h.dup, h.ret⟩ | cases hk⟩
theorem ite_ok {p : Prop} [Decidable p] {x : α} {d : D} {k : Prop} [Decidable k] (hk : k ↔ p) (h : p → r x d) : RelE r (if p then .ok x else .stuck) (if k then .ok d else .stuck) := by
  by_cases c : p
  · rw [if_pos c, if_pos (hk.mpr c)]; exact rel_ok (h c)
  · rw [if_neg c]; trivial
def catR (xs ys : List α) : Res (List α) := if xs.length + ys.length ≤ LINE then .ok (xs ++ ys) else .stuck
theorem catR_ok (h : xs.length + ys.length ≤ LINE) : catR xs ys = .ok (xs ++ ys) := if_pos h
theorem o_cat {s : Rl α} [e1 : ElOk m r] [e2 : ElOk m' r] (h1 : rL m r xs d) (h2 : rL m' r ys d') : RelE (rL .own r) (catR xs ys) (addD d d') := by
  obtain ⟨k, ds, hk, rfl, h⟩ := h1
  obtain ⟨l, es, hl, rfl, h'⟩ := h2
  rw [addD_ll]
  exact ite_ok ⟨fun z => by have := z.2.2; rw [h.len, h'.len] at this; exact this, fun z => ⟨e1.h hk h, e2.h hl h', by rw [h.len, h'.len]; exact z⟩⟩ fun _ => ⟨.own, _, rfl, rfl, h.app h'⟩
def catQ (xs ys : List α) : Res (List α) := if xs ≠ [] ∧ ys ≠ [] ∧ xs.length + ys.length ≤ LINE then .ok (xs ++ ys) else .stuck
theorem Al.ne {ds : List D} (h : Al r xs ds) : ds ≠ [] ↔ xs ≠ [] := by
  rw [← List.length_pos_iff, ← List.length_pos_iff, h.len]
theorem o_catQ [IsDup r] (h1 : rQ r xs d) (h2 : rQ r ys d') : RelE (rQ r) (catQ xs ys) (addD d d') := by
  obtain ⟨ds, rfl, h⟩ := h1
  obtain ⟨es, rfl, h'⟩ := h2
  show RelE (rQ r) (catQ xs ys) (if ds ≠ [] ∧ es ≠ [] ∧ D.dupAll ds = true ∧ D.dupAll es = true ∧ ds.length + es.length ≤ LINE then .ok (.tup (ds ++ es)) else .stuck)
  exact ite_ok ⟨fun z => ⟨h.ne.mp z.1, h'.ne.mp z.2.1, by have := z.2.2.2.2; rw [h.len, h'.len] at this; exact this⟩, fun z => ⟨h.ne.mpr z.1, h'.ne.mpr z.2.1, h.dup, h'.dup, by rw [h.len, h'.len]; exact z.2.2⟩⟩ fun _ => ⟨_, rfl, h.app h'⟩
def catS (x y : Str) : Res Str := if x.length + y.length ≤ LINE then .ok (x ++ y) else .stuck
theorem o_catS {x y : Str} (h1 : rS x d) (h2 : rS y d') : RelE rS (catS x y) (addD d d') := by
  rw [show d = .str x from h1, show d' = .str y from h2]
  exact ite_ok (k := x.length + y.length ≤ LINE) Iff.rfl fun _ => rfl
@[irreducible] def repR (xs : List α) (j : Int) : Res (List α) := if -9223372036854775808 ≤ j ∧ j < 9223372036854775808 ∧ xs.length * j.toNat ≤ LINE then .ok (List.replicate j.toNat xs).flatten else .stuck
theorem o_rep [e1 : ElOk m r] (h1 : rL m r xs d) (h2 : rI j d') : RelE (rL .own r) (repR xs j) (mulD d d') := by
  obtain ⟨k, ds, hk, rfl, h⟩ := h1
  rw [show d' = .int j from h2, mulD_li]
  unfold repR
  exact ite_ok ⟨fun z => ⟨z.2.1, z.2.2.1, by have := z.2.2.2; rw [h.len] at this; exact this⟩, fun z => ⟨e1.h hk h, z.1, z.2.1, by rw [h.len]; exact z.2.2⟩⟩ fun _ => ⟨.own, _, rfl, rfl, h.flat _⟩
theorem repR_if {xs : List α} {j : Int} : repR xs j = if -9223372036854775808 ≤ j ∧ j < 9223372036854775808 ∧ xs.length * j.toNat ≤ LINE then .ok (List.replicate j.toNat xs).flatten else .stuck := by unfold repR; rfl
/-- bounds of a slice -/
def EoT (P : List Slot) (T : Res (Option Int)) (e : Rho → Res (Option Int)) : Prop := ∀ ρ, Env P ρ → match T with
  | .ok a => e ρ = .ok a
  | .err c fs => e ρ = .err c fs
  | .stuck => True
theorem t_o0 : EoT P (.ok none) oNone := fun ρ E => rfl
theorem t_o1 (h : EvT P rI (.ok i) e) : EoT P (.ok (some i)) (oSome e) := fun ρ E => by
  obtain ⟨d, q, z⟩ := h ρ E
  have z : d = .int i := z
  subst z
  show oSome e ρ = _
  rw [oSome_eq, q]; rfl
theorem t_o1r {T : Res Int} (h : EvT P rI T e) : EoT P (T.bind fun i => .ok (some i)) (oSome e) := fun ρ E => by
  have h := h ρ E
  rw [oSome_eq]
  cases T with
  | ok i =>
    obtain ⟨d, q, z⟩ := h
    have z : d = .int i := z
    subst z
    rw [q]; rfl
  | err c fs =>
    rw [show e ρ = .err c fs from h]; rfl
  | stuck => trivial
theorem t_cutG {lo hi : Option Int} {el eh : Rho → Res (Option Int)} {T : Res β} (h : EvT P ra (.ok a) e) (hl : EoT P (.ok lo) el) (hh : EoT P (.ok hi) eh) (o : ∀ {d}, ra a d → RelE rb T (cutD lo hi d)) : EvT P rb T (eCut e el eh) := fun ρ E => by
  obtain ⟨d, q, z⟩ := h ρ E
  rw [eCut_eq, q, rb_ok, show el ρ = .ok lo from hl ρ E, rb_ok, show eh ρ = .ok hi from hh ρ E, rb_ok]
  exact o z
theorem t_cutGr {Tl Th : Res (Option Int)} {el eh : Rho → Res (Option Int)} {T : α → Option Int → Option Int → Res β} (h : EvT P ra T1 e) (hl : EoT P Tl el) (hh : EoT P Th eh) (o : ∀ a lo hi {d}, ra a d → RelE rb (T a lo hi) (cutD lo hi d)) : EvT P rb (T1.bind fun a => Tl.bind fun lo => Th.bind fun hi => T a lo hi) (eCut e el eh) := fun ρ E => by
  rw [eCut_eq]
  refine (h ρ E).bind fun a d z => ?_
  have hl := hl ρ E
  have hh := hh ρ E
  cases Tl with
  | ok lo =>
    rw [show el ρ = .ok lo from hl, rb_ok, rb_ok]
    cases Th with
    | ok hi => rw [show eh ρ = .ok hi from hh, rb_ok, rb_ok]; exact o a lo hi z
    | err c fs => rw [show eh ρ = .err c fs from hh]; exact (rfl : (Res.err c fs : Res D) = _)
    | stuck => trivial
  | err c fs => rw [show el ρ = .err c fs from hl]; exact (rfl : (Res.err c fs : Res D) = _)
  | stuck => trivial
theorem o_cutL {lo hi : Option Int} [e1 : ElOk m r] (h1 : rL m r xs d) : RelE (rL .own r) (.ok (cutA xs lo hi)) (cutD lo hi d) := by
  obtain ⟨k, ds, hk, rfl, h⟩ := h1
  rw [cutD_lst, if_pos (e1.h hk h)]
  exact rel_ok ⟨.own, _, rfl, rfl, h.cut lo hi⟩
def cutSR (x : Str) (lo hi : Option Int) : Res Str := if x.length ≤ LINE then .ok (cutS x lo hi) else .stuck
theorem o_cutS {lo hi : Option Int} {x : Str} (h1 : rS x d) : RelE rS (cutSR x lo hi) (cutD lo hi d) := by
  rw [show d = .str x from h1]
  exact ite_ok (k := x.length ≤ LINE) Iff.rfl fun _ => rfl
def cutQ (xs : List α) (lo hi : Option Int) : Res (List α) := if ¬ (HT.sIx xs.length 0 lo = 0 ∧ HT.sIx xs.length xs.length hi = xs.length) then .ok (cutA xs lo hi) else .stuck
theorem o_cutQ {lo hi : Option Int} [IsDup r] (h1 : rQ r xs d) : RelE (rQ r) (cutQ xs lo hi) (cutD lo hi d) := by
  obtain ⟨ds, rfl, h⟩ := h1
  show RelE (rQ r) (cutQ xs lo hi) (if D.dupAll (cutA ds lo hi) = true ∧ ¬ (HT.sIx ds.length 0 lo = 0 ∧ HT.sIx ds.length ds.length hi = ds.length) then .ok (.tup (cutA ds lo hi)) else .stuck)
  rw [h.len]
  exact ite_ok ⟨fun z => z.2, fun z => ⟨(h.cut lo hi).dup, z⟩⟩ fun _ => ⟨_, rfl, h.cut lo hi⟩
/-! built-ins -/
theorem k_lenL (h1 : rL m r xs d) : RelE rI (.ok (xs.length : Int)) (lenD [d]) := by
  obtain ⟨k, ds, _, rfl, h⟩ := h1
  rw [lenD_lst, h.len]; exact rel_ok rfl
theorem k_lenQ (h1 : rQ r xs d) : RelE rI (.ok (xs.length : Int)) (lenD [d]) := by
  obtain ⟨ds, rfl, h⟩ := h1
  rw [lenD_tup, h.len]; exact rel_ok rfl
theorem k_lenSc {ns : List Int} (h1 : rSc ns d) : RelE rI (.ok (ns.length : Int)) (lenD [d]) := by
  rw [show d = .scr ns from h1, lenD_scr]; exact rel_ok rfl
def lenS (x : Str) : Res Int := if x.length ≤ LINE then .ok (x.length : Int) else .stuck
theorem k_lenS {x : Str} (h1 : rS x d) : RelE rI (lenS x) (lenD [d]) := by
  rw [show d = .str x from h1]
  exact ite_ok (k := x.length ≤ LINE) Iff.rfl fun _ => rfl
theorem s1_len {ds : List D} (h : rs1 r a ds) : ds.length = 1 := by obtain ⟨d, rfl, _⟩ := h; rfl
theorem sC_len {s : Rls β} {p : α × β} {ds : List D} {n : Nat} (k : ∀ es, s p.2 es → es.length = n) (h : rsC r s p ds) : ds.length = n + 1 := by obtain ⟨d, es, rfl, _, h2⟩ := h; rw [List.length_cons, k es h2]
theorem k_lenT {s : Rls α} {n : Nat} (k : ∀ ds, s a ds → ds.length = n) (h1 : rT s a d) : RelE rI (.ok (n : Int)) (lenD [d]) := by
  obtain ⟨ds, rfl, h⟩ := h1
  rw [lenD_tup, k ds h]; exact rel_ok rfl
theorem k_abs (h1 : rI i d) : RelE rI (.ok (if i < 0 then -i else i)) (absD [d]) := by
  rw [show d = .int i from h1, absD_int]; exact rel_ok rfl
theorem k_max2 (h1 : rI i d) (h2 : rI j d') : RelE rI (.ok (max i j)) (max2D [d, d']) := by
  rw [show d = .int i from h1, show d' = .int j from h2, max2D_ii]
  refine rel_ok ?_
  show D.int _ = D.int _
  congr 1
  split <;> omega
theorem k_min2 (h1 : rI i d) (h2 : rI j d') : RelE rI (.ok (min i j)) (min2D [d, d']) := by
  rw [show d = .int i from h1, show d' = .int j from h2, min2D_ii]
  refine rel_ok ?_
  show D.int _ = D.int _
  congr 1
  split <;> omega
theorem toInts_al {ns : List Int} {ds : List D} (h : Al rI ns ds) : toInts ds = some ns := by rw [h.ints, toInts_int]
theorem k_sum {ns : List Int} (h1 : rL m rI ns d) : RelE rI (.ok ns.sum) (sumD [d]) := by
  obtain ⟨k, ds, _, rfl, h⟩ := h1
  show RelE rI _ (sumR (toInts ds))
  rw [toInts_al h]; exact rel_ok rfl
def maxT : List Int → Res Int
  | [] => .stuck
  | n :: ns => .ok (maxL n ns)
def minT : List Int → Res Int
  | [] => .stuck
  | n :: ns => .ok (minL n ns)
theorem k_max1 {ns : List Int} (h1 : rL m rI ns d) : RelE rI (maxT ns) (max1D [d]) := by
  obtain ⟨k, ds, _, rfl, h⟩ := h1
  show RelE rI _ (maxR (toInts ds))
  rw [toInts_al h]
  cases ns with
  | nil => trivial
  | cons n ns => exact rel_ok rfl
theorem k_min1 {ns : List Int} (h1 : rL m rI ns d) : RelE rI (minT ns) (min1D [d]) := by
  obtain ⟨k, ds, _, rfl, h⟩ := h1
  show RelE rI _ (minR (toInts ds))
  rw [toInts_al h]
  cases ns with
  | nil => trivial
  | cons n ns => exact rel_ok rfl
theorem k_sorted {ns : List Int} (h1 : rL m rI ns d) : RelE (rL .own rI) (.ok (sortI ns)) (sortD [d]) := by
  obtain ⟨k, ds, _, rfl, h⟩ := h1
  show RelE _ _ (sortR (toInts ds))
  rw [toInts_al h]; exact rel_ok ⟨.own, _, rfl, rfl, Al.of_ints _⟩
theorem k_sortRev {ns : List Int} (h1 : rL m rI ns d) : RelE (rL .own rI) (.ok (sortI ns).reverse) (sortRevD [d]) := by
  obtain ⟨k, ds, _, rfl, h⟩ := h1
  show RelE _ _ (revR (toInts ds))
  rw [toInts_al h]; exact rel_ok ⟨.own, _, rfl, rfl, Al.of_ints _⟩
theorem t_sortRev {ns : List Int} (h : EvT P (rL m rI) (.ok ns) e) : EvT P (rL .own rI) (.ok (sortI ns).reverse) (eSortB true e) := fun ρ E => by
  obtain ⟨d, q, z⟩ := h ρ E
  show RelE _ _ ((e ρ).bind fun d => if true = true then sortRevD [d] else sortD [d])
  rw [q, rb_ok, if_pos rfl]; exact k_sortRev z
theorem t_sortRevr {T : Res (List Int)} (h : EvT P (rL m rI) T e) : EvT P (rL .own rI) (T.bind fun ns => .ok (sortI ns).reverse) (eSortB true e) := fun ρ E => by
  show RelE _ _ ((e ρ).bind fun d => if true = true then sortRevD [d] else sortD [d])
  exact (h ρ E).bind fun ns d z => by rw [if_pos rfl]; exact k_sortRev z
theorem k_intI (h1 : rI i d) : RelE rI (.ok i) (intD [d]) := by
  rw [show d = .int i from h1, intD_int]; exact rel_ok rfl
theorem k_intB {b : Bool} (h1 : rB b d) : RelE rI (.ok (if b = true then 1 else 0)) (intD [d]) := by
  rw [show d = .bl b from h1]; cases b <;> exact rel_ok rfl
/-- a whole number as a text -/
def strR (i : Int) : Res Str := if i.natAbs.log2 < 1920 then .ok (toString i) else .stuck
theorem k_strI (h1 : rI i d) : RelE rS (strR i) (strD [d]) := by
  rw [show d = .int i from h1]
  exact ite_ok (k := i.natAbs.log2 < 1920) Iff.rfl fun _ => rfl
theorem k_listL [e1 : ElOk m r] (h1 : rL m r xs d) : RelE (rL .own r) (.ok xs) (listD [d]) := by
  obtain ⟨k, ds, hk, rfl, h⟩ := h1
  show RelE _ _ (if elOk k ds = true then Res.ok (D.lst .own ds) else .stuck)
  rw [if_pos (e1.h hk h)]; exact rel_ok ⟨.own, _, rfl, rfl, h⟩
theorem k_listQ [IsDup r] [IsRet r] (h1 : rQ r xs d) : RelE (rL .own r) (.ok xs) (listD [d]) := by
  obtain ⟨ds, rfl, h⟩ := h1
  show RelE _ _ (if D.pureAll ds = true then Res.ok (D.lst .own ds) else .stuck)
  rw [if_pos (show D.pureAll ds = true from Bool.and_eq_true_iff.mpr ⟨h.dup, h.ret⟩)]; exact rel_ok ⟨.own, _, rfl, rfl, h⟩
theorem k_listSc {ns : List Int} (h1 : rSc ns d) : RelE (rL .own rI) (.ok ns) (listD [d]) := by
  rw [show d = .scr ns from h1]; exact rel_ok ⟨.own, _, rfl, rfl, Al.of_ints ns⟩
theorem k_tupL [e1 : ElOk m r] (h1 : rL m r xs d) : RelE (rQ r) (.ok xs) (tupleD [d]) := by
  obtain ⟨k, ds, hk, rfl, h⟩ := h1
  show RelE _ _ (if elOk k ds = true then Res.ok (D.tup ds) else .stuck)
  rw [if_pos (e1.h hk h)]; exact rel_ok ⟨_, rfl, h⟩
theorem k_tupQ' [IsDup r] (h1 : rQ r xs d) : RelE (rQ r) (.ok xs) (tupleD [d]) := by
  obtain ⟨ds, rfl, h⟩ := h1
  show RelE _ _ (if D.dupAll ds = true then Res.ok (D.tup ds) else .stuck)
  rw [if_pos h.dup]; exact rel_ok ⟨_, rfl, h⟩
/-! isinstance -/
theorem o_isiI {t : String} {b : Bool} (hb : (t == "int") = b) (h1 : rI i d) : RelE rB (.ok b) (isiD t d) := by rw [show d = .int i from h1, ← hb]; exact rel_ok rfl
theorem o_isiB {t : String} {b x : Bool} (hb : (t == "int" || t == "bool") = b) (h1 : rB x d) : RelE rB (.ok b) (isiD t d) := by rw [show d = .bl x from h1, ← hb]; exact rel_ok rfl
theorem o_isiS {t : String} {b : Bool} {x : Str} (hb : (t == "str") = b) (h1 : rS x d) : RelE rB (.ok b) (isiD t d) := by rw [show d = .str x from h1, ← hb]; exact rel_ok rfl
theorem o_isiL {t : String} {b : Bool} (hb : (t == "list") = b) (h1 : rL m r xs d) : RelE rB (.ok b) (isiD t d) := by obtain ⟨k, ds, _, rfl, _⟩ := h1; rw [← hb]; exact rel_ok rfl
theorem o_isiQ {t : String} {b : Bool} (hb : (t == "tuple") = b) (h1 : rQ r xs d) : RelE rB (.ok b) (isiD t d) := by obtain ⟨ds, rfl, _⟩ := h1; rw [← hb]; exact rel_ok rfl
theorem o_isiT {t : String} {b : Bool} {s : Rls α} (hb : (t == "tuple") = b) (h1 : rT s a d) : RelE rB (.ok b) (isiD t d) := by obtain ⟨ds, rfl, _⟩ := h1; rw [← hb]; exact rel_ok rfl
theorem o_isiN {t : String} {u : Unit} (h1 : rN u d) : RelE rB (.ok false) (isiD t d) := by rw [show d = .non from h1]; exact rel_ok rfl
theorem o_isiO {t : String} {o : Option α} (k : ∀ {a d}, r a d → RelE rB (.ok true) (isiD t d)) (h1 : rO r o d) : RelE rB (.ok o.isSome) (isiD t d) := by
  cases o with
  | none => rw [show d = .non from h1]; exact rel_ok rfl
  | some a => exact k (a := a) h1
theorem o_isiO' {t : String} {o : Option α} (k : ∀ {a d}, r a d → RelE rB (.ok false) (isiD t d)) (h1 : rO r o d) : RelE rB (.ok false) (isiD t d) := by
  cases o with
  | none => rw [show d = .non from h1]; exact rel_ok rfl
  | some a => exact k (a := a) h1
/-! tests -/
theorem RelB.bind {T : Res Bool} {R : Res Bool} {U k : Bool → Res Bool} (h : RelB T R) (n : ∀ b, RelB (U b) (k b)) : RelB (T.bind U) (R.bind k) := by
  cases T with
  | ok b => rw [show R = .ok b from h]; exact n b
  | err c fs => rw [show R = .err c fs from h]; exact (rfl : (Res.err c fs : Res Bool) = _)
  | stuck => trivial
theorem RelE.bindB {T : Res α} {R : Res D} {U : α → Res Bool} {k : D → Res Bool} (h : RelE r T R) (n : ∀ a d, r a d → RelB (U a) (k d)) : RelB (T.bind U) (R.bind k) := by
  cases T with
  | ok a => obtain ⟨d, e, h⟩ := h; rw [e]; exact n a d h
  | err c fs => rw [show R = .err c fs from h]; exact (rfl : (Res.err c fs : Res Bool) = _)
  | stuck => trivial
theorem t_bE {T : Res Bool} (h : EvT P rB T e) : EtT P T (bE e) := fun ρ E => by
  have h := h ρ E
  rw [bE_eq]
  cases T with
  | ok b => obtain ⟨d, q, z⟩ := h; rw [q, show d = .bl b from z]; exact (rfl : (Res.ok b : Res Bool) = _)
  | err c fs => rw [show e ρ = .err c fs from h]; exact (rfl : (Res.err c fs : Res Bool) = _)
  | stuck => trivial
theorem t_bED {T : Res D} (h : EvT P rD T e) : EtT P (T.bind bK) (bE e) := fun ρ E => by
  rw [bE_eq]
  exact (h ρ E).bindB fun a d z => by
    rw [show d = a from z]
    cases bK a with
    | ok b => exact (rfl : (Res.ok b : Res Bool) = _)
    | err c fs => exact (rfl : (Res.err c fs : Res Bool) = _)
    | stuck => trivial
/-- what is true of a typed value -/
class Tru (r : Rl α) (f : outParam (α → Bool)) : Prop where
  h : ∀ {a d}, r a d → truthD d = .ok (f a)
instance : Tru rB (fun b => b) := ⟨fun {a d} h => by rw [show d = .bl a from h]; rfl⟩
instance : Tru rI (fun i => i != 0) := ⟨fun {a d} h => by rw [show d = .int a from h]; rfl⟩
instance : Tru rN (fun _ => false) := ⟨fun {a d} h => by rw [show d = .non from h]; rfl⟩
instance : Tru (rL m r) (fun xs => !xs.isEmpty) := ⟨fun {a d} ⟨k, ds, _, e, h⟩ => by subst e; rw [truthD_lst, isEmpty_len h.len]⟩
instance : Tru (rQ r) (fun xs => !xs.isEmpty) := ⟨fun {a d} ⟨ds, e, h⟩ => by subst e; rw [truthD_tup, isEmpty_len h.len]⟩
instance : Tru rSc (fun xs => !xs.isEmpty) := ⟨fun {a d} h => by rw [show d = .scr a from h]; rfl⟩
theorem t_bT {f : α → Bool} [w : Tru r f] (h : EvT P r (.ok a) e) : EtT P (.ok (f a)) (bT e) := fun ρ E => by
  obtain ⟨d, q, z⟩ := h ρ E
  rw [bT_eq, q, rb_ok, w.h z]; exact (rfl : (Res.ok (f a) : Res Bool) = _)
theorem t_bTr {f : α → Bool} [w : Tru r f] (h : EvT P r T e) : EtT P (T.bind fun a => .ok (f a)) (bT e) := fun ρ E => by
  rw [bT_eq]
  exact (h ρ E).bindB fun a d z => by rw [w.h z]; exact (rfl : (Res.ok (f a) : Res Bool) = _)
theorem t_bTL (h : EvT P (rL m r) (.ok xs) e) : EtT P (.ok (!xs.isEmpty)) (bT e) := t_bT (f := fun xs : List α => !xs.isEmpty) h
theorem t_bTLr {T : Res (List α)} (h : EvT P (rL m r) T e) : EtT P (T.bind fun xs => .ok (!xs.isEmpty)) (bT e) := t_bTr h
theorem t_bTQ (h : EvT P (rQ r) (.ok xs) e) : EtT P (.ok (!xs.isEmpty)) (bT e) := t_bT (f := fun xs : List α => !xs.isEmpty) h
theorem t_bTQr {T : Res (List α)} (h : EvT P (rQ r) T e) : EtT P (T.bind fun xs => .ok (!xs.isEmpty)) (bT e) := t_bTr h
theorem t_bTI (h : EvT P rI (.ok i) e) : EtT P (.ok (i != 0)) (bT e) := t_bT (f := fun i => i != 0) h
theorem t_bTIr {T : Res Int} (h : EvT P rI T e) : EtT P (T.bind fun i => .ok (i != 0)) (bT e) := t_bTr h
theorem t_bTZ {ns : List Int} (h : EvT P rSc (.ok ns) e) : EtT P (.ok (!ns.isEmpty)) (bT e) := t_bT (f := fun ns : List Int => !ns.isEmpty) h
/-- a test that is a bool -/
theorem t_bTb {T : Res Bool} (h : EvT P rB T e) : EtT P T (bT e) := fun ρ E => by
  have h := h ρ E
  rw [bT_eq]
  cases T with
  | ok b => obtain ⟨d, q, z⟩ := h; rw [q, show d = .bl b from z]; exact (rfl : (Res.ok b : Res Bool) = _)
  | err c fs => rw [show e ρ = .err c fs from h]; exact (rfl : (Res.err c fs : Res Bool) = _)
  | stuck => trivial
theorem t_bTD {T : Res D} (h : EvT P rD T e) : EtT P (T.bind truthD) (bT e) := fun ρ E => by
  rw [bT_eq]
  exact (h ρ E).bindB fun a d z => by
    rw [show d = a from z]
    cases truthD a with
    | ok b => exact (rfl : (Res.ok b : Res Bool) = _)
    | err c fs => exact (rfl : (Res.err c fs : Res Bool) = _)
    | stuck => trivial
def strT (x : Str) : Res Bool := if x.length ≤ LINE then .ok ((x.length : Int) != 0) else .stuck
theorem t_bTS {x : Str} (h : EvT P rS (.ok x) e) : EtT P (strT x) (bT e) := fun ρ E => by
  obtain ⟨d, q, z⟩ := h ρ E
  rw [bT_eq, q, rb_ok, show d = .str x from z]
  show RelB (strT x) (if x.length ≤ LINE then .ok ((x.length : Int) != 0) else .stuck)
  unfold strT
  by_cases c : x.length ≤ LINE
  · rw [if_pos c]; exact (rfl : (Res.ok _ : Res Bool) = _)
  · rw [if_neg c]; trivial
variable {t t' : Rho → Res Bool} {p q : Bool} {S S' : Res Bool}
theorem t_not (h : EtT P (.ok p) t) : EtT P (.ok (!p)) (bNot t) := fun ρ E => by
  rw [bNot_eq, show t ρ = .ok p from h ρ E]; exact (rfl : (Res.ok _ : Res Bool) = _)
theorem t_notr (h : EtT P S t) : EtT P (S.bind fun b => .ok (!b)) (bNot t) := fun ρ E => by
  rw [bNot_eq]
  exact (h ρ E).bind fun b => (rfl : (Res.ok _ : Res Bool) = _)
theorem t_and (h : EtT P (.ok p) t) (h2 : EtT P (.ok q) t') : EtT P (.ok (p && q)) (bAnd t t') := fun ρ E => by
  rw [bAnd_eq, show t ρ = .ok p from h ρ E, rb_ok, show t' ρ = .ok q from h2 ρ E]
  cases p <;> exact (rfl : (Res.ok _ : Res Bool) = _)
theorem t_or (h : EtT P (.ok p) t) (h2 : EtT P (.ok q) t') : EtT P (.ok (p || q)) (bOr t t') := fun ρ E => by
  rw [bOr_eq, show t ρ = .ok p from h ρ E, rb_ok, show t' ρ = .ok q from h2 ρ E]
  cases p <;> exact (rfl : (Res.ok _ : Res Bool) = _)
theorem t_andp (h : EtT P (.ok p) t) (h2 : EtT P S t') : EtT P (if p = true then S else .ok false) (bAnd t t') := fun ρ E => by
  rw [bAnd_eq, show t ρ = .ok p from h ρ E, rb_ok]
  cases p
  · exact (rfl : (Res.ok _ : Res Bool) = _)
  · exact h2 ρ E
theorem t_orp (h : EtT P (.ok p) t) (h2 : EtT P S t') : EtT P (if p = true then .ok true else S) (bOr t t') := fun ρ E => by
  rw [bOr_eq, show t ρ = .ok p from h ρ E, rb_ok]
  cases p
  · exact h2 ρ E
  · exact (rfl : (Res.ok _ : Res Bool) = _)
theorem t_andr (h : EtT P S' t) (h2 : EtT P S t') : EtT P (S'.bind fun p => if p = true then S else .ok false) (bAnd t t') := fun ρ E => by
  rw [bAnd_eq]
  refine (h ρ E).bind fun p => ?_
  cases p
  · exact (rfl : (Res.ok _ : Res Bool) = _)
  · exact h2 ρ E
theorem t_orr (h : EtT P S' t) (h2 : EtT P S t') : EtT P (S'.bind fun p => if p = true then .ok true else S) (bOr t t') := fun ρ E => by
  rw [bOr_eq]
  refine (h ρ E).bind fun p => ?_
  cases p
  · exact h2 ρ E
  · exact (rfl : (Res.ok _ : Res Bool) = _)
/-! and, or, not as values -/
theorem t_eNot (h : EvT P rB (.ok p) e) : EvT P rB (.ok (!p)) (eNot e) := fun ρ E => by
  obtain ⟨d, q, z⟩ := h ρ E
  rw [eNot_eq, q, rb_ok, show d = .bl p from z]; exact rel_ok rfl
theorem t_eNotr (h : EvT P rB S e) : EvT P rB (S.bind fun p => .ok (!p)) (eNot e) := fun ρ E => by
  rw [eNot_eq]
  exact (h ρ E).bind fun p d z => by rw [show d = .bl p from z]; exact rel_ok rfl
theorem t_eAnd (h : EvT P rB (.ok p) e1) (h2 : EvT P rB (.ok q) e2) : EvT P rB (.ok (p && q)) (eAnd e1 e2) := fun ρ E => by
  obtain ⟨d, q1, z⟩ := h ρ E
  rw [eAnd_eq, q1, rb_ok, show d = .bl p from z, blK_bl]
  cases p
  · exact rel_ok rfl
  · exact h2 ρ E
theorem t_eOr (h : EvT P rB (.ok p) e1) (h2 : EvT P rB (.ok q) e2) : EvT P rB (.ok (p || q)) (eOr e1 e2) := fun ρ E => by
  obtain ⟨d, q1, z⟩ := h ρ E
  rw [eOr_eq, q1, rb_ok, show d = .bl p from z, blK_bl]
  cases p
  · exact h2 ρ E
  · exact rel_ok rfl
theorem t_eAndp (h : EvT P rB (.ok p) e1) (h2 : EvT P rB S e2) : EvT P rB (if p = true then S else .ok false) (eAnd e1 e2) := fun ρ E => by
  obtain ⟨d, q1, z⟩ := h ρ E
  rw [eAnd_eq, q1, rb_ok, show d = .bl p from z, blK_bl]
  cases p
  · exact rel_ok rfl
  · exact h2 ρ E
theorem t_eOrp (h : EvT P rB (.ok p) e1) (h2 : EvT P rB S e2) : EvT P rB (if p = true then .ok true else S) (eOr e1 e2) := fun ρ E => by
  obtain ⟨d, q1, z⟩ := h ρ E
  rw [eOr_eq, q1, rb_ok, show d = .bl p from z, blK_bl]
  cases p
  · exact h2 ρ E
  · exact rel_ok rfl
theorem t_eAndr (h : EvT P rB S' e1) (h2 : EvT P rB S e2) : EvT P rB (S'.bind fun p => if p = true then S else .ok false) (eAnd e1 e2) := fun ρ E => by
  rw [eAnd_eq]
  refine (h ρ E).bind fun p d z => ?_
  rw [show d = .bl p from z, blK_bl]
  cases p
  · exact rel_ok rfl
  · exact h2 ρ E
theorem t_eOrr (h : EvT P rB S' e1) (h2 : EvT P rB S e2) : EvT P rB (S'.bind fun p => if p = true then .ok true else S) (eOr e1 e2) := fun ρ E => by
  rw [eOr_eq]
  refine (h ρ E).bind fun p d z => ?_
  rw [show d = .bl p from z, blK_bl]
  cases p
  · exact h2 ρ E
  · exact rel_ok rfl
/-! sources -/
def SrcT (P : List Slot) (r : Rl α) (T : Res (List α)) (it : Rho → Res (List D)) : Prop := ∀ ρ, Env P ρ → match T with
  | .ok xs => ∃ ds, it ρ = .ok ds ∧ Al r xs ds
  | .err c fs => it ρ = .err c fs
  | .stuck => True
class Itm (m : Md) (r : Rl α) : Prop where
  h : ∀ {k as ds}, m.has k = true → Al r as ds → itemsD (.lst k ds) = .ok ds
instance : Itm .frz r := ⟨fun {k as ds} hk h => by cases k <;> first | rfl | cases hk⟩
instance : Itm .ro r := ⟨fun {k as ds} hk h => by cases k <;> first | rfl | cases hk⟩
class New (m : Md) (r : Rl α) : Prop where
  h : ∀ {k as ds}, m.has k = true → Al r as ds → newItemsD (.lst k ds) = .ok ds
instance : New .frz r := ⟨fun {k as ds} hk h => by cases k <;> first | rfl | cases hk⟩
instance : New .ro r := ⟨fun {k as ds} hk h => by cases k <;> first | rfl | cases hk⟩
instance [IsDup r] : New .own r := ⟨fun {k as ds} hk h => by cases k <;> first | exact if_pos h.dup | cases hk⟩
instance [IsDup r] : New .ret r := ⟨fun {k as ds} hk h => by cases k <;> first | rfl | exact if_pos h.dup | cases hk⟩
theorem src_of {κ : Type} {rk : Rl κ} {T : Res κ} {U : κ → List α} {k : D → Res (List D)} (h : EvT P rk T e) (w : ∀ a d, rk a d → ∃ ds, k d = .ok ds ∧ Al r (U a) ds) : SrcT P r (T.bind fun a => .ok (U a)) (fun ρ => (e ρ).bind k) := fun ρ E => by
  have h := h ρ E
  cases T with
  | ok a => obtain ⟨d, q, z⟩ := h; show ∃ ds, (e ρ).bind k = .ok ds ∧ _; rw [q]; exact w a d z
  | err c fs => show (e ρ).bind k = .err c fs; rw [show e ρ = .err c fs from h]; rfl
  | stuck => trivial
theorem t_ofL [w : Itm m r] (h : EvT P (rL m r) (.ok xs) e) : SrcT P r (.ok xs) (iOf e) := src_of (U := fun x => x) h fun a d ⟨k, ds, hk, q, z⟩ => ⟨ds, by rw [q]; exact w.h hk z, z⟩
theorem t_ofLr {T : Res (List α)} [w : Itm m r] (h : EvT P (rL m r) T e) : SrcT P r (T.bind fun xs => .ok xs) (iOf e) := src_of (U := fun x => x) h fun a d ⟨k, ds, hk, q, z⟩ => ⟨ds, by rw [q]; exact w.h hk z, z⟩
theorem t_ofQ [IsDup r] (h : EvT P (rQ r) (.ok xs) e) : SrcT P r (.ok xs) (iOf e) := src_of (U := fun x => x) h fun a d ⟨ds, q, z⟩ => ⟨ds, by rw [q]; exact if_pos z.dup, z⟩
theorem t_ofQr {T : Res (List α)} [IsDup r] (h : EvT P (rQ r) T e) : SrcT P r (T.bind fun xs => .ok xs) (iOf e) := src_of (U := fun x => x) h fun a d ⟨ds, q, z⟩ => ⟨ds, by rw [q]; exact if_pos z.dup, z⟩
theorem t_nwL [w : New m r] (h : EvT P (rL m r) (.ok xs) e) : SrcT P r (.ok xs) (iNew e) := src_of (U := fun x => x) h fun a d ⟨k, ds, hk, q, z⟩ => ⟨ds, by rw [q]; exact w.h hk z, z⟩
theorem t_nwLr {T : Res (List α)} [w : New m r] (h : EvT P (rL m r) T e) : SrcT P r (T.bind fun xs => .ok xs) (iNew e) := src_of (U := fun x => x) h fun a d ⟨k, ds, hk, q, z⟩ => ⟨ds, by rw [q]; exact w.h hk z, z⟩
def rgI (lo : Int) (n : Nat) : List Int := (List.range n).map fun (i : Nat) => lo + (i : Int)
theorem al_rg (lo : Int) (n : Nat) : Al rI (rgI lo n) (rngL lo n) := by
  unfold rgI rngL
  have e : (List.range n).map (fun (i : Nat) => D.int (lo + (i : Int))) = ((List.range n).map fun (i : Nat) => lo + (i : Int)).map D.int := by rw [List.map_map]; rfl
  rw [e]; exact Al.of_ints _
@[irreducible] def rg1R (i : Int) : Res (List Int) := if i < 4611686018427387904 ∧ -4611686018427387904 ≤ i then .ok (rgI 0 i.toNat) else .stuck
@[irreducible] def rg2R (i j : Int) : Res (List Int) := if i < 4611686018427387904 ∧ -4611686018427387904 ≤ i ∧ j < 4611686018427387904 ∧ -4611686018427387904 ≤ j then .ok (rgI i (j - i).toNat) else .stuck
theorem t_rg1 {T : Res Int} (h : EvT P rI T e) : SrcT P rI (T.bind rg1R) (iRg rng1D (aCons e aNil)) := fun ρ E => by
  have h := h ρ E
  cases T with
  | ok i =>
    obtain ⟨d, q, z⟩ := h
    have z : d = .int i := z
    subst z
    simp only [rb_ok]
    have w : iRg rng1D (aCons e aNil) ρ = rng1D [.int i] := by rw [iRg_eq, aCons_eq, q]; rfl
    rw [w]
    unfold rg1R
    by_cases c : i < 4611686018427387904 ∧ -4611686018427387904 ≤ i
    · rw [if_pos c]; exact ⟨_, if_pos c, al_rg 0 _⟩
    · rw [if_neg c]; trivial
  | err c fs =>
    show iRg rng1D (aCons e aNil) ρ = .err c fs
    rw [iRg_eq, aCons_eq, show e ρ = .err c fs from h]; rfl
  | stuck => trivial
theorem t_rg2 {T T' : Res Int} (h : EvT P rI T e) (h2 : EvT P rI T' e2) : SrcT P rI (T.bind fun i => T'.bind fun j => rg2R i j) (iRg rng2D (aCons e (aCons e2 aNil))) := fun ρ E => by
  have h := h ρ E
  have h2 := h2 ρ E
  cases T with
  | ok i =>
    obtain ⟨d, q, z⟩ := h
    have z : d = .int i := z
    subst z
    cases T' with
    | ok j =>
      obtain ⟨d, q2, z⟩ := h2
      have z : d = .int j := z
      subst z
      simp only [rb_ok]
      have w : iRg rng2D (aCons e (aCons e2 aNil)) ρ = rng2D [.int i, .int j] := by rw [iRg_eq, aCons_eq, aCons_eq, q, q2]; rfl
      rw [w]
      unfold rg2R
      by_cases c : i < 4611686018427387904 ∧ -4611686018427387904 ≤ i ∧ j < 4611686018427387904 ∧ -4611686018427387904 ≤ j
      · rw [if_pos c]; exact ⟨_, if_pos c, al_rg i _⟩
      · rw [if_neg c]; trivial
    | err c fs =>
      show iRg rng2D (aCons e (aCons e2 aNil)) ρ = .err c fs
      rw [iRg_eq, aCons_eq, aCons_eq, q, show e2 ρ = .err c fs from h2]; rfl
    | stuck => trivial
  | err c fs =>
    show iRg rng2D (aCons e (aCons e2 aNil)) ρ = .err c fs
    rw [iRg_eq, aCons_eq, show e ρ = .err c fs from h]; rfl
  | stuck => trivial
@[simp] theorem rg1R_nat {n : Nat} (h : n < 4611686018427387904) : rg1R (n : Int) = .ok (rgI 0 n) := by
  unfold rg1R; rw [if_pos ⟨by omega, by omega⟩, Int.toNat_natCast]
theorem rg1R_ok (h : i < 4611686018427387904) (h2 : -4611686018427387904 ≤ i) : rg1R i = .ok (rgI 0 i.toNat) := by unfold rg1R; exact if_pos ⟨h, h2⟩
theorem rg2R_ok (h : i < 4611686018427387904) (h2 : -4611686018427387904 ≤ i) (h3 : j < 4611686018427387904) (h4 : -4611686018427387904 ≤ j) : rg2R i j = .ok (rgI i (j - i).toNat) := by unfold rg2R; exact if_pos ⟨h, h2, h3, h4⟩
/-! targets -/
def GtT (P : List Slot) (r : Rl α) (a : α) (g : GG) (Q : List Slot) : Prop := ∀ ρ d, Env P ρ → r a d → ∃ ρ', g d ρ = some ρ' ∧ Env Q ρ'
def GtTs (P : List Slot) (s : Rls α) (a : α) (g : GGs) (Q : List Slot) : Prop := ∀ ρ ds, Env P ρ → s a ds → ∃ ρ', g ds ρ = some ρ' ∧ Env Q ρ'
variable {Q Q' : List Slot}
theorem g_n {i : Nat} (u : UpS i P (Sl r a) Q) : GtT P r a (gN i) Q := fun ρ d E h => ⟨_, rfl, u.set E ⟨d, rfl, h⟩⟩
theorem g_t {s : Rls α} {u : GGs} (h : GtTs P s a u Q) : GtT P (rT s) a (gTp u) Q := fun ρ d E ⟨ds, e, z⟩ => by subst e; exact h ρ ds E z
theorem g_1 {t : GG} (h : GtT P r a t Q) : GtTs P (rs1 r) a (gCn t gNl) Q := fun ρ ds E ⟨d, e, z⟩ => by
  subst e
  obtain ⟨ρ', q, E'⟩ := h ρ d E z
  exact ⟨ρ', by rw [gCn_cons, q]; rfl, E'⟩
theorem g_c {s : Rls β} {t : GG} {u : GGs} {p : α × β} (h : GtT P r p.1 t Q) (k : GtTs Q s p.2 u Q') : GtTs P (rsC r s) p (gCn t u) Q' := fun ρ ds E ⟨d, es, e, z, z2⟩ => by
  subst e
  obtain ⟨ρ', q, E'⟩ := h ρ d E z
  obtain ⟨ρ2, q2, E2⟩ := k ρ' es E' z2
  exact ⟨ρ2, by rw [gCn_cons, q]; exact q2, E2⟩
/-! comprehensions -/
def compR (p : α → Res Bool) (f : α → Res β) : List α → Res (List β)
  | [] => .ok []
  | a :: as => (noErr (p a)).bind fun b => if b = true then (noErr (f a)).bind fun y => (compR p f as).bind fun ys => .ok (y :: ys) else compR p f as
def lenG (ys : List α) : Res (List α) := if ys.length ≤ LINE then .ok ys else .stuck
theorem lenG_ok (h : ys.length ≤ LINE) : lenG ys = .ok ys := if_pos h
theorem compT_run {p : α → Res Bool} {f : α → Res β} {g : GG} {c : Rho → Res Bool} {ef : Rho → Res D} {Q : α → List Slot} (hg : ∀ a, GtT P ra a g (Q a)) (hc : ∀ a, EtT (Q a) (p a) c) (hf : ∀ a, EvT (Q a) rb (f a) ef) {ρ : Rho} (E : Env P ρ) :
    ∀ {as : List α} {ds : List D}, Al ra as ds → match compR p f as with | .ok ys => ∃ es, compD g c ef ρ ds = .ok es ∧ Al rb ys es | .err _ _ => False | .stuck => True
  | _, _, .nil => ⟨_, rfl, .nil⟩
  | a :: as, d :: ds, .cons h t => by
    obtain ⟨ρ1, q, E1⟩ := hg a ρ d E h
    have ih := compT_run hg hc hf E t
    have hc := hc a ρ1 E1
    have hf := hf a ρ1 E1
    unfold compR
    have e0 : compD g c ef ρ (d :: ds) = (noErr (c ρ1)).bind fun b => if b then (noErr (ef ρ1)).bind fun y => (compD g c ef ρ ds).bind fun ys => .ok (y :: ys) else compD g c ef ρ ds := by
      show (match g d ρ with | none => Res.stuck | some ρ1 => _) = _
      rw [q]
    rw [e0]
    cases zp : p a with
    | ok b =>
      rw [zp] at hc
      rw [show c ρ1 = .ok b from hc]
      show match (if b = true then _ else _ : Res (List β)) with | .ok ys => _ | .err _ _ => _ | .stuck => _
      cases b
      · exact ih
      · rw [if_pos rfl]
        cases zf : f a with
        | ok y =>
          rw [zf] at hf
          obtain ⟨dy, qf, zy⟩ := hf
          rw [qf]
          show match ((compR p f as).bind fun ys => Res.ok (y :: ys)) with | .ok ys => _ | .err _ _ => _ | .stuck => _
          cases zr : compR p f as with
          | ok ys =>
            rw [zr] at ih
            obtain ⟨es, qe, ze⟩ := ih
            exact ⟨dy :: es, by show ((compD g c ef ρ ds).bind fun ys => Res.ok (dy :: ys)) = _; rw [qe]; rfl, .cons zy ze⟩
          | err c' fs => rw [zr] at ih; exact ih.elim
          | stuck => trivial
        | err c' fs => trivial
        | stuck => trivial
    | err c' fs => trivial
    | stuck => trivial
/-- slots of own names wiped -/
inductive WpE : List Nat → List Slot → List Slot → Prop
  | n {P : List Slot} : WpE [] P P
  | c {v : Nat} {vs : List Nat} {P Q Q' : List Slot} : WpE vs P Q → UpS v Q J Q' → WpE (v :: vs) P Q'
theorem WpE.env : ∀ {vs : List Nat} {P Q : List Slot} {ρ : Rho}, WpE vs P Q → Env P ρ → Env Q (wipeR ρ vs)
  | _, _, _, _, .n, E => E
  | _, _, _, _, .c h u, E => u.set (h.env E) trivial
theorem t_compG {vs : List Nat} {src : Rho → Res (List D)} {g : GG} {c : Rho → Res Bool} {ef : Rho → Res D} {Pw : List Slot} {Q : α → List Slot} {Ts : Res (List α)} {p : α → Res Bool} {f : α → Res β} [w : IsRet rb] (hs : SrcT P ra Ts src) (hw : WpE vs P Pw) (hg : ∀ a, GtT Pw ra a g (Q a)) (hc : ∀ a, EtT (Q a) (p a) c) (hf : ∀ a, EvT (Q a) rb (f a) ef) :
    EvT P (rL .own rb) (Ts.bind fun xs => (compR p f xs).bind lenG) (eComp vs src g c ef) := fun ρ E => by
  have hs := hs ρ E
  unfold eComp
  cases Ts with
  | ok xs =>
    obtain ⟨ds, q, z⟩ := hs
    rw [q, rb_ok, rb_ok]
    have h := compT_run hg hc hf (hw.env E) z
    cases zr : compR p f xs with
    | ok ys =>
      rw [zr] at h
      obtain ⟨es, qe, ze⟩ := h
      rw [qe, rb_ok, rb_ok]
      exact ite_ok ⟨fun z => by have := z.1; rw [ze.len] at this; exact this, fun z => ⟨by rw [ze.len]; exact z, ze.ret⟩⟩ fun _ => ⟨.own, _, rfl, rfl, ze⟩
    | err c' fs => rw [zr] at h; exact h.elim
    | stuck => trivial
  | err c fs => rw [show src ρ = .err c fs from hs]; exact (rfl : (Res.err c fs : Res D) = _)
  | stuck => trivial
theorem compR_map {f : α → β} : ∀ (xs : List α), compR (fun _ => .ok true) (fun a => .ok (f a)) xs = .ok (xs.map f)
  | [] => rfl
  | a :: as => by
    unfold compR
    show ((compR _ _ as).bind fun ys => Res.ok (f a :: ys)) = _
    rw [compR_map as]; rfl
theorem compR_filter {p : α → Bool} {f : α → β} : ∀ (xs : List α), compR (fun a => .ok (p a)) (fun a => .ok (f a)) xs = .ok ((xs.filter p).map f)
  | [] => rfl
  | a :: as => by
    unfold compR
    show (if p a = true then ((compR _ _ as).bind fun ys => Res.ok (f a :: ys)) else compR _ _ as) = _
    rw [compR_filter as]
    cases z : p a with
    | true => rw [if_pos rfl, List.filter_cons_of_pos z]; rfl
    | false => rw [if_neg (by simp), List.filter_cons_of_neg (by rw [z]; exact Bool.false_ne_true)]
/-- an element without conditions -/
theorem t_yes : EtT P (.ok true) bYes := fun ρ E => rfl
def mapR (f : α → Res β) : List α → Res (List β)
  | [] => .ok []
  | a :: as => (noErr (f a)).bind fun y => (mapR f as).bind fun ys => .ok (y :: ys)
theorem compR_mapR {f : α → Res β} : ∀ (xs : List α), compR (fun _ => .ok true) f xs = mapR f xs
  | [] => rfl
  | a :: as => by
    unfold compR mapR
    show ((noErr (f a)).bind fun y => (compR _ _ as).bind fun ys => Res.ok (y :: ys)) = _
    rw [compR_mapR as]
theorem t_compM {vs : List Nat} {src : Rho → Res (List D)} {g : GG} {ef : Rho → Res D} {Pw : List Slot} {Q : α → List Slot} {Ts : Res (List α)} {f : α → β} [w : IsRet rb] (hs : SrcT P ra Ts src) (hw : WpE vs P Pw) (hg : ∀ a, GtT Pw ra a g (Q a)) (hf : ∀ a, EvT (Q a) rb (.ok (f a)) ef) :
    EvT P (rL .own rb) (Ts.bind fun xs => lenG (xs.map f)) (eComp vs src g bYes ef) := by
  have z := t_compG hs hw hg (fun a => t_yes) hf
  simpa only [compR_map, rb_ok] using z
theorem t_compF {vs : List Nat} {src : Rho → Res (List D)} {g : GG} {c : Rho → Res Bool} {ef : Rho → Res D} {Pw : List Slot} {Q : α → List Slot} {Ts : Res (List α)} {p : α → Bool} {f : α → β} [w : IsRet rb] (hs : SrcT P ra Ts src) (hw : WpE vs P Pw) (hg : ∀ a, GtT Pw ra a g (Q a)) (hc : ∀ a, EtT (Q a) (.ok (p a)) c) (hf : ∀ a, EvT (Q a) rb (.ok (f a)) ef) :
    EvT P (rL .own rb) (Ts.bind fun xs => lenG ((xs.filter p).map f)) (eComp vs src g c ef) := by
  have z := t_compG hs hw hg hc hf
  simpa only [compR_filter, rb_ok] using z
theorem t_compR {vs : List Nat} {src : Rho → Res (List D)} {g : GG} {ef : Rho → Res D} {Pw : List Slot} {Q : α → List Slot} {Ts : Res (List α)} {f : α → Res β} [w : IsRet rb] (hs : SrcT P ra Ts src) (hw : WpE vs P Pw) (hg : ∀ a, GtT Pw ra a g (Q a)) (hf : ∀ a, EvT (Q a) rb (f a) ef) :
    EvT P (rL .own rb) (Ts.bind fun xs => (mapR f xs).bind lenG) (eComp vs src g bYes ef) := by
  have z := t_compG hs hw hg (fun a => t_yes) hf
  simpa only [compR_mapR] using z
end
end DH
/-! Typed readings of mirrors: statements, defs, classes. -/
namespace DH
open PySem L2
/-- how a block ends: it goes on, it returns, it leaves a loop or a turn -/
inductive Ctl (β σ : Type) where
  | next (s : σ)
  | ret (b : β)
  | brk (s : σ)
  | cnt (s : σ)
abbrev Ph (τ : Type) := τ → Out → Prop
section
variable {α β γ σ σ' τ κ : Type} {P P' P0 Q0 : List Slot} {r ra : Rl α} {rb : Rl β} {rc : Rl γ} {T : Res α} {e e1 e2 e3 : Rho → Res D} {es : Rho → Res (List D)} {a : α} {b : β} {m m' : Md} {i j : Nat} {d d' : D} {xs ys : List α} {pe pe' : Rho → Prop} {Φ : Ph τ} {f g h : Rho → Out} {U : Res τ}
/-- what a typed answer says of a block's -/
def RelO (pe : Rho → Prop) (Φ : Ph τ) (T : Res τ) (o : Out) : Prop := match T with
  | .ok t => Φ t o
  | .err c fs => ∃ ρ', o = .err c fs ρ' ∧ pe ρ'
  | .stuck => True
def Bl (pe : Rho → Prop) (P : List Slot) (Φ : Ph τ) (T : Res τ) (f : Rho → Out) : Prop := ∀ ρ, Env P ρ → RelO pe Φ T (f ρ)
def phN (Q : σ → List Slot) : Ph σ := fun s o => ∃ ρ', o = .next ρ' ∧ Env (Q s) ρ'
def phF (r : Rl β) : Ph β := fun b o => ∃ d, o = .ret d ∧ r b d ∧ d.ret = true
def phC (r : Rl β) (Q : σ → List Slot) : Ph (Ctl β σ) := fun t o => match t with
  | .next s => ∃ ρ', o = .next ρ' ∧ Env (Q s) ρ'
  | .ret b => ∃ d, o = .ret d ∧ r b d ∧ d.ret = true
  | .brk s => ∃ ρ', o = .brk ρ' ∧ Env (Q s) ρ'
  | .cnt s => ∃ ρ', o = .cnt ρ' ∧ Env (Q s) ρ'
/-- .. that never goes on -/
def phX (r : Rl β) (Q : σ → List Slot) : Ph (Ctl β σ) := fun t o => match t with
  | .next s => False
  | .ret b => ∃ d, o = .ret d ∧ r b d ∧ d.ret = true
  | .brk s => ∃ ρ', o = .brk ρ' ∧ Env (Q s) ρ'
  | .cnt s => ∃ ρ', o = .cnt ρ' ∧ Env (Q s) ρ'
def phZ : Ph τ := fun _ _ => False
def pT : Rho → Prop := fun _ => True
/-- ends that are no going on, within other ends -/
def ExOf (Φ' Φ : Ph τ) : Prop := ∀ t o, Φ' t o → Φ t o ∧ ∀ ρ, o ≠ .next ρ
theorem exF : ExOf (phF rb) (phF rb) := fun t o ⟨d, e, h⟩ => ⟨⟨d, e, h⟩, fun ρ z => by rw [e] at z; cases z⟩
theorem exX {Q : σ → List Slot} : ExOf (phX rb Q) (phC rb Q) := fun t o h => by
  cases t with
  | next s => exact h.elim
  | ret b => obtain ⟨d, e, h⟩ := h; exact ⟨⟨d, e, h⟩, fun ρ z => by rw [e] at z; cases z⟩
  | brk b => obtain ⟨d, e, h⟩ := h; exact ⟨⟨d, e, h⟩, fun ρ z => by rw [e] at z; cases z⟩
  | cnt b => obtain ⟨d, e, h⟩ := h; exact ⟨⟨d, e, h⟩, fun ρ z => by rw [e] at z; cases z⟩
theorem exXX {Q : σ → List Slot} : ExOf (phX rb Q) (phX rb Q) := fun t o h => by
  cases t with
  | next s => exact h.elim
  | ret b => obtain ⟨d, e, h⟩ := h; exact ⟨⟨d, e, h⟩, fun ρ z => by rw [e] at z; cases z⟩
  | brk b => obtain ⟨d, e, h⟩ := h; exact ⟨⟨d, e, h⟩, fun ρ z => by rw [e] at z; cases z⟩
  | cnt b => obtain ⟨d, e, h⟩ := h; exact ⟨⟨d, e, h⟩, fun ρ z => by rw [e] at z; cases z⟩
theorem exZ : ExOf (phZ : Ph τ) Φ := fun t o h => h.elim
theorem RelO.mono {Φ' : Ph τ} {T : Res τ} {o : Out} (h : RelO pe Φ' T o) (k : ∀ t o, Φ' t o → Φ t o) : RelO pe Φ T o := by
  cases T with
  | ok t => exact k t o h
  | err c fs => exact h
  | stuck => trivial
/-! one statement, then the others -/
theorem bl_last (h : Bl pe P Φ U (sSeq f sNil)) : Bl pe P Φ U f := fun ρ E => by
  have h := h ρ E
  rw [sSeq_eq] at h
  cases z : f ρ with
  | next ρ' => rw [z] at h; exact h
  | ret d => rw [z] at h; exact h
  | brk ρ' => rw [z] at h; exact h
  | cnt ρ' => rw [z] at h; exact h
  | err c fs ρ' => rw [z] at h; exact h
  | stuck => rw [z] at h; exact h
theorem ob_rel {R : Res D} {k : D → Out} {V : α → Res τ} {ρ : Rho} (hp : pe ρ) (h : RelE r T R) (n : ∀ a d, r a d → RelO pe Φ (V a) (k d)) : RelO pe Φ (T.bind V) (oBind R ρ k) := by
  cases T with
  | ok a => obtain ⟨d, e, h⟩ := h; rw [e]; exact n a d h
  | err c fs => rw [show R = .err c fs from h]; exact ⟨ρ, rfl, hp⟩
  | stuck => trivial
def letR (a : α) (k : α → β) : β := k a
theorem RelO.seq {R : Res D} {ρ : Rho} {k : D → Out} {o : Out} (h : RelO pe Φ U (oSeq o g)) (e : o = oBind R ρ k) : RelO pe Φ U (oSeq (oBind R ρ k) g) := e ▸ h
theorem oSeq_ob {R : Res D} {ρ : Rho} {k : D → Out} : oSeq (oBind R ρ k) g = oBind R ρ fun d => oSeq (k d) g := by
  cases R <;> rfl
/-- x = e, e worth a -/
theorem b_set {Pn : α → List Slot} {V : α → Res τ} (he : EvT P r (.ok a) e) (u : ∀ a, UpS i P (Sl r a) (Pn a)) (n : ∀ a, Bl pe (Pn a) Φ (V a) g) : Bl pe P Φ (letR a V) (sSeq (sSet i e) g) := fun ρ E => by
  obtain ⟨d, q, z⟩ := he ρ E
  rw [sSeq_eq, sSet_eq, q, ob_ok, oSeq_next]
  exact n a _ ((u a).set E ⟨d, rfl, z⟩)
/-- .. e told apart -/
theorem b_setr {Pn : α → List Slot} {V : α → Res τ} (hp : ∀ ρ, Env P ρ → pe ρ) (he : EvT P r T e) (u : ∀ a, UpS i P (Sl r a) (Pn a)) (n : ∀ a, Bl pe (Pn a) Φ (V a) g) : Bl pe P Φ (T.bind V) (sSeq (sSet i e) g) := fun ρ E => by
  rw [sSeq_eq, sSet_eq, oSeq_ob]
  refine ob_rel (hp ρ E) (he ρ E) fun a d z => ?_
  rw [oSeq_next]
  exact n a _ ((u a).set E ⟨d, rfl, z⟩)
theorem b_drop {V : α → Res τ} (hp : ∀ ρ, Env P ρ → pe ρ) (he : EvT P r T e) (n : ∀ a, Bl pe P Φ (V a) g) : Bl pe P Φ (T.bind V) (sSeq (sDrop e) g) := fun ρ E => by
  rw [sSeq_eq, sDrop_eq, oSeq_ob]
  refine ob_rel (hp ρ E) (he ρ E) fun a d z => ?_
  rw [oSeq_next]
  exact n a _ E
/-- a, b = e -/
theorem b_unp {Pn : α → List Slot} {gg : GG} {V : α → Res τ} [w : IsDup r] (hp : ∀ ρ, Env P ρ → pe ρ) (he : EvT P r T e) (u : ∀ a, GtT P r a gg (Pn a)) (n : ∀ a, Bl pe (Pn a) Φ (V a) g) : Bl pe P Φ (T.bind V) (sSeq (sUnp gg e) g) := fun ρ E => by
  rw [sSeq_eq, sUnp_eq, oSeq_ob]
  refine ob_rel (hp ρ E) (he ρ E) fun a d z => ?_
  obtain ⟨ρ', q, E'⟩ := u a ρ d E z
  rw [if_pos (w.h z), q, unpO_some, oSeq_next]
  exact n a _ E'
/-- x += e -/
theorem b_aug {op : Int → Int → Int} {x : Int} {T : Res Int} {Pn : Int → List Slot} {V : Int → Res τ} (hx : AtS i P (Sl rI x)) (hp : ∀ ρ, Env P ρ → pe ρ) (he : EvT P rI T e) (u : ∀ a, UpS i P (Sl rI a) (Pn a)) (n : ∀ a, Bl pe (Pn a) Φ (V a) g) : Bl pe P Φ (T.bind fun y => letR (op x y) V) (sSeq (sAug op i e) g) := fun ρ E => by
  obtain ⟨o, q, d, rfl, z⟩ := hx.get E
  have z : d = .int x := z
  subst z
  rw [sSeq_eq, sAug_eq, q, augO_int, oSeq_ob]
  refine ob_rel (hp ρ E) (he ρ E) fun a d z => ?_
  rw [show d = .int a from z, augP_int, oSeq_next]
  exact n _ _ ((u _).set E ⟨_, rfl, rfl⟩)
/-- x.append(e) -/
def appR (xs : List α) (a : α) : Res (List α) := if xs.length < LINE then .ok (xs ++ [a]) else .stuck
theorem appR_ok (h : xs.length < LINE) : appR xs a = .ok (xs ++ [a]) := if_pos h
theorem b_app {Pn : List α → List Slot} {V : List α → Res τ} [w : IsRet r] (hx : AtS i P (Sl (rL .own r) xs)) (hp : ∀ ρ, Env P ρ → pe ρ) (he : EvT P r T e) (u : ∀ a, UpS i P (Sl (rL .own r) a) (Pn a)) (n : ∀ a, Bl pe (Pn a) Φ (V a) g) : Bl pe P Φ (T.bind fun y => (appR xs y).bind V) (sSeq (sApp i e) g) := fun ρ E => by
  obtain ⟨o, q, d, rfl, k, ds, hk, rfl, h⟩ := hx.get E
  cases k <;> first | cases hk; done | skip
  rw [sSeq_eq, sApp_eq, q, appO_own, oSeq_ob]
  refine ob_rel (hp ρ E) (he ρ E) fun a d z => ?_
  unfold appR appP
  by_cases c : xs.length < LINE
  · rw [if_pos c, if_pos ⟨w.h z, by rw [h.len]; exact c⟩, oSeq_next]
    exact n _ _ ((u _).set E ⟨_, rfl, .own, _, rfl, rfl, h.app (.cons z .nil)⟩)
  · rw [if_neg c]; trivial
/-- x[j] = e -/
def setR (xs : List α) (j : Int) (a : α) : Res (List α) := match ixN xs.length j with
  | some m => .ok (xs.set m a)
  | none => .stuck
theorem setR_nat {n : Nat} (h : n < xs.length) : setR xs (n : Int) a = .ok (xs.set n a) := by unfold setR; rw [ixN_nat h]
theorem setR_int {j : Int} (h0 : 0 ≤ j) (h : j < xs.length) : setR xs j a = .ok (xs.set j.toNat a) := by
  have e : j = (j.toNat : Int) := by omega
  rw [e]; exact setR_nat (by omega)
theorem b_ix {Tj : Res Int} {ej : Rho → Res D} {Pn : List α → List Slot} {V : List α → Res τ} [w : IsRet r] [w2 : IsDup r] (hx : AtS i P (Sl (rL .own r) xs)) (hp : ∀ ρ, Env P ρ → pe ρ) (he : EvT P r T e) (hj : EvT P rI Tj ej) (u : ∀ a, UpS i P (Sl (rL .own r) a) (Pn a)) (n : ∀ a, Bl pe (Pn a) Φ (V a) g) :
    Bl pe P Φ (T.bind fun y => Tj.bind fun j => (setR xs j y).bind V) (sSeq (sIx i ej e) g) := fun ρ E => by
  obtain ⟨o, q, d, rfl, k, ds, hk, rfl, h⟩ := hx.get E
  cases k <;> first | cases hk; done | skip
  rw [sSeq_eq, sIx_eq, q, setO_own, oSeq_ob]
  refine ob_rel (hp ρ E) (he ρ E) fun a d z => ?_
  rw [oSeq_ob]
  refine ob_rel (hp ρ E) (hj ρ E) fun j d2 z2 => ?_
  rw [show d2 = .int j from z2, setJ_int]
  unfold setR
  rw [h.len]
  cases c : ixN xs.length j with
  | none => trivial
  | some m =>
    rw [setP_of (w.h z) (w2.h z) h.dup, oSeq_next]
    exact n _ _ ((u _).set E ⟨_, rfl, .own, _, rfl, rfl, h.set z m⟩)
/-- what a slot holds is frozen -/
theorem b_frz {s : Rl α} {Pn : List Slot} [w : IsRet r] [v : Frz r s] (hx : AtS i P (Sl r a)) (u : UpS i P (Sl s a) Pn) (n : Bl pe Pn Φ U f) : Bl pe P Φ U (sFrz i f) := fun ρ E => by
  obtain ⟨o, q, d, rfl, h⟩ := hx.get E
  rw [sFrz_eq, q, frzO_some, if_pos (w.h h)]
  exact n _ (u.set E ⟨_, rfl, v.h h⟩)
/-- raise -/
theorem b_raise0 {c : Str} (hp : ∀ ρ, Env P ρ → pe ρ) : Bl pe P Φ (.err c []) (sRaise0 c) := fun ρ E => ⟨ρ, rfl, hp ρ E⟩
class Sca (r : Rl α) (v : outParam (α → V)) : Prop where
  h : ∀ {a d}, r a d → sV d = some (v a)
instance : Sca rI V.int := ⟨fun {a d} h => by rw [show d = .int a from h]; rfl⟩
instance : Sca rS V.str := ⟨fun {a d} h => by rw [show d = .str a from h]; rfl⟩
instance : Sca rB V.bl := ⟨fun {a d} h => by rw [show d = .bl a from h]; rfl⟩
theorem b_raise1 {c fl : Str} {v : α → V} [w : Sca r v] (hp : ∀ ρ, Env P ρ → pe ρ) (he : EvT P r T e) : Bl pe P Φ (T.bind fun a => .err c [(fl, v a)]) (sRaise c [fl] (aCons e aNil)) := fun ρ E => by
  have h := he ρ E
  rw [sRaise_eq, aCons_eq]
  cases T with
  | ok a =>
    obtain ⟨d, q, z⟩ := h
    rw [q]
    refine ⟨ρ, ?_, hp ρ E⟩
    show (match sVs [d] with | some vs => _ | none => _) = _
    have : sVs [d] = some [v a] := by show (sV d).bind _ = _; rw [w.h z]; rfl
    rw [this]; rfl
  | err c' fs => exact ⟨ρ, by rw [show e ρ = .err c' fs from h]; rfl, hp ρ E⟩
  | stuck => trivial
theorem b_raise2 {c fl fm : Str} {v : α → V} {v' : β → V} {T' : Res β} [w : Sca r v] [w' : Sca rb v'] (hp : ∀ ρ, Env P ρ → pe ρ) (he : EvT P r T e) (he2 : EvT P rb T' e2) : Bl pe P Φ (T.bind fun a => T'.bind fun b => .err c [(fm, v' b), (fl, v a)]) (sRaise c [fl, fm] (aCons e (aCons e2 aNil))) := fun ρ E => by
  have h := he ρ E
  have h2 := he2 ρ E
  rw [sRaise_eq, aCons_eq, aCons_eq]
  cases T with
  | ok a =>
    obtain ⟨d, q, z⟩ := h
    cases T' with
    | ok b =>
      obtain ⟨d2, q2, z2⟩ := h2
      rw [q, q2]
      refine ⟨ρ, ?_, hp ρ E⟩
      show (match sVs [d, d2] with | some vs => _ | none => _) = _
      have : sVs [d, d2] = some [v a, v' b] := by
        show (sV d).bind _ = _
        rw [w.h z]
        show Option.map _ ((sV d2).bind _) = _
        rw [w'.h z2]; rfl
      rw [this]; rfl
    | err c' fs => exact ⟨ρ, by rw [q, show e2 ρ = .err c' fs from h2]; rfl, hp ρ E⟩
    | stuck => trivial
  | err c' fs => exact ⟨ρ, by rw [show e ρ = .err c' fs from h]; rfl, hp ρ E⟩
  | stuck => trivial
/-- return -/
theorem b_ret [w : IsRet r] (hp : ∀ ρ, Env P ρ → pe ρ) (he : EvT P r T e) : Bl pe P (phF r) T (sRet e) := fun ρ E => by
  have h := he ρ E
  rw [sRet_eq]
  cases T with
  | ok a => obtain ⟨d, q, z⟩ := h; rw [q, ob_ok, retK_of (w.h z)]; exact ⟨d, rfl, z, w.h z⟩
  | err c fs => rw [show e ρ = .err c fs from h]; exact ⟨ρ, rfl, hp ρ E⟩
  | stuck => trivial
theorem b_retD {T : Res D} (hp : ∀ ρ, Env P ρ → pe ρ) (he : EvT P rD T e) : Bl pe P (phF rD) (T.bind fun d => if d.ret = true then .ok d else .stuck) (sRet e) := fun ρ E => by
  have h := he ρ E
  rw [sRet_eq]
  cases T with
  | ok a =>
    obtain ⟨d, q, z⟩ := h
    have z : d = a := z
    subst z
    rw [q, ob_ok, rb_ok]
    unfold retK
    by_cases c : d.ret = true
    · rw [if_pos c, if_pos c]; exact ⟨d, rfl, rfl, c⟩
    · rw [if_neg c]; trivial
  | err c fs => rw [show e ρ = .err c fs from h]; exact ⟨ρ, rfl, hp ρ E⟩
  | stuck => trivial
theorem b_retV [w : IsRet r] (h : AtS i P (Sl r a)) : Bl pe P (phF r) (.ok a) (sRetV i) := fun ρ E => by
  obtain ⟨o, q, d, rfl, z⟩ := h.get E
  rw [sRetV_eq, q, retO_some, retK_of (w.h z)]
  exact ⟨d, rfl, z, w.h z⟩
theorem b_retVs [w : IsRet r] (h : AtS i P (Sl r a)) : Bl pe P (phF (rO r)) (.ok (some a)) (sRetV i) := fun ρ E => by
  obtain ⟨o, q, d, rfl, z⟩ := h.get E
  rw [sRetV_eq, q, retO_some, retK_of (w.h z)]
  exact ⟨d, rfl, z, w.h z⟩
theorem b_retVD {x : D} (h : AtS i P (Sl rD x)) : Bl pe P (phF rD) (if x.ret = true then .ok x else .stuck) (sRetV i) := fun ρ E => by
  obtain ⟨o, q, d, rfl, z⟩ := h.get E
  have z : d = x := z
  subst z
  rw [sRetV_eq, q, retO_some]
  unfold retK
  by_cases c : d.ret = true
  · rw [if_pos c, if_pos c]; exact ⟨d, rfl, rfl, c⟩
  · rw [if_neg c]; trivial
theorem b_retN : Bl pe P (phF rN) (.ok ()) sRetN := fun ρ E => ⟨_, rfl, rfl, rfl⟩
theorem b_retNo : Bl pe P (phF (rO r)) (.ok none) sRetN := fun ρ E => ⟨_, rfl, rfl, rfl⟩
/-- weaker results -/
theorem b_wk {r s : Rl α} [w : Wk r s] {T : Res α} (h : Bl pe P (phF r) T f) : Bl pe P (phF s) T f := fun ρ E => (h ρ E).mono fun t o ⟨d, q, z, c⟩ => ⟨d, q, w.h z, c⟩
/-- a return within a loop or a branch -/
theorem b_retX {Q : σ → List Slot} {T : Res β} (h : Bl pe P (phF rb) T f) : Bl pe P (phX rb Q) (T.bind fun b => .ok (.ret b)) f := fun ρ E => by
  have h := h ρ E
  cases T with
  | ok b => exact h
  | err c fs => exact h
  | stuck => trivial
theorem b_retXp {Q : σ → List Slot} (h : Bl pe P (phF rb) (.ok b) f) : Bl pe P (phX rb Q) (.ok (.ret b)) f := b_retX h
theorem b_XC {Q : σ → List Slot} {T : Res (Ctl β σ)} (h : Bl pe P (phX rb Q) T f) : Bl pe P (phC rb Q) T f := fun ρ E => (h ρ E).mono fun t o z => (exX t o z).1
theorem b_ZX {T : Res τ} (h : Bl pe P (phZ : Ph τ) T f) : Bl pe P Φ T f := fun ρ E => (h ρ E).mono fun t o z => z.elim
/-- the end of a block -/
theorem b_nilN {Q : σ → List Slot} {s : σ} (w : WkE P (Q s)) : Bl pe P (phN Q) (.ok s) sNil := fun ρ E => ⟨ρ, rfl, w.env E⟩
theorem b_nilC {Q : σ → List Slot} {s : σ} (w : WkE P (Q s)) : Bl pe P (phC rb Q) (.ok (.next s)) sNil := fun ρ E => ⟨ρ, rfl, w.env E⟩
theorem b_cnt {Q : σ → List Slot} {s : σ} (w : WkE P (Q s)) : Bl pe P (phX rb Q) (.ok (.cnt s)) sCnt := fun ρ E => ⟨ρ, rfl, w.env E⟩
theorem b_brk {Q : σ → List Slot} {s : σ} (w : WkE P (Q s)) : Bl pe P (phX rb Q) (.ok (.brk s)) sBrk := fun ρ E => ⟨ρ, rfl, w.env E⟩
/-! if -/
variable {t : Rho → Res Bool} {p : Bool} {S : Res Bool} {A B : Res τ}
theorem RelO.if_ {ρ : Rho} {o1 o2 : Out} (h1 : RelO pe Φ A o1) (h2 : RelO pe Φ B o2) : RelO pe Φ (if p = true then A else B) (if p = true then o1 else o2) := by
  cases p
  · exact h2
  · exact h1
theorem b_if (ht : EtT P (.ok p) t) (h1 : Bl pe P Φ A f) (h2 : Bl pe P Φ B g) : Bl pe P Φ (if p = true then A else B) (sIf t f g) := fun ρ E => by
  rw [sIf_eq, show t ρ = .ok p from ht ρ E, ob_ok]
  cases p
  · exact h2 ρ E
  · exact h1 ρ E
theorem b_ifr (hp : ∀ ρ, Env P ρ → pe ρ) (ht : EtT P S t) (h1 : Bl pe P Φ A f) (h2 : Bl pe P Φ B g) : Bl pe P Φ (S.bind fun p => if p = true then A else B) (sIf t f g) := fun ρ E => by
  have ht := ht ρ E
  rw [sIf_eq]
  cases S with
  | ok p =>
    rw [show t ρ = .ok p from ht, ob_ok]
    cases p
    · exact h2 ρ E
    · exact h1 ρ E
  | err c fs => rw [show t ρ = .err c fs from ht]; exact ⟨ρ, rfl, hp ρ E⟩
  | stuck => trivial
/-- two blocks one after the other -/
theorem b_seqN {Q : σ → List Slot} {T : Res σ} {W : σ → Res τ} (h1 : Bl pe P (phN Q) T f) (h2 : ∀ s, Bl pe (Q s) Φ (W s) g) : Bl pe P Φ (T.bind W) (sSeq f g) := fun ρ E => by
  have h1 := h1 ρ E
  rw [sSeq_eq]
  cases T with
  | ok s => obtain ⟨ρ', q, E'⟩ := h1; rw [q, oSeq_next]; exact h2 s ρ' E'
  | err c fs => obtain ⟨ρ', q, E'⟩ := h1; rw [q]; exact ⟨ρ', rfl, E'⟩
  | stuck => trivial
def onF (W : σ → Res β) : Ctl β σ → Res β
  | .ret b => .ok b
  | .next s => W s
  | _ => .stuck
def onC (W : σ → Res (Ctl β σ')) : Ctl β σ → Res (Ctl β σ')
  | .ret b => .ok (.ret b)
  | .next s => W s
  | _ => .stuck
/-- .. the loop's own ends stay -/
def onL (W : σ → Res (Ctl β σ)) : Ctl β σ → Res (Ctl β σ)
  | .ret b => .ok (.ret b)
  | .next s => W s
  | .brk s => .ok (.brk s)
  | .cnt s => .ok (.cnt s)
@[simp] theorem onF_ret {W : σ → Res β} : onF W (.ret b) = .ok b := ndq rfl
@[simp] theorem onF_next {W : σ → Res β} {s : σ} : onF W (.next s) = W s := ndq rfl
@[simp] theorem onC_ret {W : σ → Res (Ctl β σ')} : onC W (.ret b) = .ok (.ret b) := ndq rfl
@[simp] theorem onC_next {W : σ → Res (Ctl β σ')} {s : σ} : onC W (.next s) = W s := ndq rfl
theorem b_seqF {Q : σ → List Slot} {T : Res (Ctl β σ)} {W : σ → Res β} (h1 : Bl pe P (phC rb Q) T f) (h2 : ∀ s, Bl pe (Q s) (phF rb) (W s) g) : Bl pe P (phF rb) (T.bind (onF W)) (sSeq f g) := fun ρ E => by
  have h1 := h1 ρ E
  rw [sSeq_eq]
  cases T with
  | ok c =>
    cases c with
    | next s => obtain ⟨ρ', q, E'⟩ := h1; rw [q, oSeq_next]; exact h2 s ρ' E'
    | ret b => obtain ⟨d, q, z⟩ := h1; rw [q, oSeq_ret]; exact ⟨d, rfl, z⟩
    | brk s => trivial
    | cnt s => trivial
  | err c fs => obtain ⟨ρ', q, E'⟩ := h1; rw [q]; exact ⟨ρ', rfl, E'⟩
  | stuck => trivial
theorem b_seqC {Q : σ → List Slot} {Q' : σ' → List Slot} {T : Res (Ctl β σ)} {W : σ → Res (Ctl β σ')} (h1 : Bl pe P (phC rb Q) T f) (h2 : ∀ s, Bl pe (Q s) (phC rb Q') (W s) g) : Bl pe P (phC rb Q') (T.bind (onC W)) (sSeq f g) := fun ρ E => by
  have h1 := h1 ρ E
  rw [sSeq_eq]
  cases T with
  | ok c =>
    cases c with
    | next s => obtain ⟨ρ', q, E'⟩ := h1; rw [q, oSeq_next]; exact h2 s ρ' E'
    | ret b => obtain ⟨d, q, z⟩ := h1; rw [q, oSeq_ret]; exact ⟨d, rfl, z⟩
    | brk s => trivial
    | cnt s => trivial
  | err c fs => obtain ⟨ρ', q, E'⟩ := h1; rw [q]; exact ⟨ρ', rfl, E'⟩
  | stuck => trivial
theorem b_seqL {Q : σ → List Slot} {T : Res (Ctl β σ)} {W : σ → Res (Ctl β σ)} (h1 : Bl pe P (phC rb Q) T f) (h2 : ∀ s, Bl pe (Q s) (phC rb Q) (W s) g) : Bl pe P (phC rb Q) (T.bind (onL W)) (sSeq f g) := fun ρ E => by
  have h1 := h1 ρ E
  rw [sSeq_eq]
  cases T with
  | ok c =>
    cases c with
    | next s => obtain ⟨ρ', q, E'⟩ := h1; rw [q, oSeq_next]; exact h2 s ρ' E'
    | ret b => obtain ⟨d, q, z⟩ := h1; rw [q, oSeq_ret]; exact ⟨d, rfl, z⟩
    | brk s => obtain ⟨ρ', q, E'⟩ := h1; rw [q]; exact ⟨ρ', rfl, E'⟩
    | cnt s => obtain ⟨ρ', q, E'⟩ := h1; rw [q]; exact ⟨ρ', rfl, E'⟩
  | err c fs => obtain ⟨ρ', q, E'⟩ := h1; rw [q]; exact ⟨ρ', rfl, E'⟩
  | stuck => trivial
/-- if t: leave; the others -/
theorem b_ifx {Φ' : Ph τ} (x : ExOf Φ' Φ) (ht : EtT P (.ok p) t) (h1 : Bl pe P Φ' A f) (h2 : Bl pe P Φ B g) : Bl pe P Φ (if p = true then A else B) (sSeq (sIf t f sNil) g) := fun ρ E => by
  rw [sSeq_eq, sIf_eq, show t ρ = .ok p from ht ρ E, ob_ok]
  cases p
  · exact h2 ρ E
  · have h1 := h1 ρ E
    show RelO pe Φ A (oSeq (f ρ) g)
    cases A with
    | ok s =>
      obtain ⟨z, nx⟩ := x s _ h1
      cases q : f ρ with
      | next ρ' => exact absurd q (nx ρ')
      | ret d => rw [q] at z; exact z
      | brk ρ' => rw [q] at z; exact z
      | cnt ρ' => rw [q] at z; exact z
      | err c fs ρ' => rw [q] at z; exact z
      | stuck => rw [q] at z; exact z
    | err c fs => obtain ⟨ρ', q, E'⟩ := h1; rw [q]; exact ⟨ρ', rfl, E'⟩
    | stuck => trivial
theorem b_ifxr {Φ' : Ph τ} (x : ExOf Φ' Φ) (hp : ∀ ρ, Env P ρ → pe ρ) (ht : EtT P S t) (h1 : Bl pe P Φ' A f) (h2 : Bl pe P Φ B g) : Bl pe P Φ (S.bind fun p => if p = true then A else B) (sSeq (sIf t f sNil) g) := fun ρ E => by
  have h := ht ρ E
  cases S with
  | ok p =>
    have k : EtT [fun o => o = none] (.ok p) (fun _ => t ρ) := fun _ _ => h
    have z : t ρ = .ok p := h
    rw [sSeq_eq, sIf_eq, z, ob_ok]
    cases p
    · exact h2 ρ E
    · have h1 := h1 ρ E
      show RelO pe Φ A (oSeq (f ρ) g)
      cases A with
      | ok s =>
        obtain ⟨z, nx⟩ := x s _ h1
        cases q : f ρ with
        | next ρ' => exact absurd q (nx ρ')
        | ret d => rw [q] at z; exact z
        | brk ρ' => rw [q] at z; exact z
        | cnt ρ' => rw [q] at z; exact z
        | err c fs ρ' => rw [q] at z; exact z
        | stuck => rw [q] at z; exact z
      | err c fs => obtain ⟨ρ', q, E'⟩ := h1; rw [q]; exact ⟨ρ', rfl, E'⟩
      | stuck => trivial
  | err c fs => rw [sSeq_eq, sIf_eq, show t ρ = .err c fs from h]; exact ⟨ρ, rfl, hp ρ E⟩
  | stuck => trivial
/-! loops -/
def forN (B : α → σ → Res σ) : List α → σ → Res σ
  | [], s => .ok s
  | a :: as, s => (B a s).bind (forN B as)
def stC (k : σ → Res (Ctl β σ)) : Ctl β σ → Res (Ctl β σ)
  | .next s => k s
  | .cnt s => k s
  | .brk s => .ok (.next s)
  | .ret b => .ok (.ret b)
def forC (B : α → σ → Res (Ctl β σ)) : List α → σ → Res (Ctl β σ)
  | [], s => .ok (.next s)
  | a :: as, s => (B a s).bind (stC (forC B as))
@[simp] theorem forN_nil {B : α → σ → Res σ} {s : σ} : forN B [] s = .ok s := rfl
@[simp] theorem forN_cons {B : α → σ → Res σ} {s : σ} {a : α} {as : List α} : forN B (a :: as) s = (B a s).bind (forN B as) := rfl
@[simp] theorem forC_nil {B : α → σ → Res (Ctl β σ)} {s : σ} : forC B [] s = .ok (.next s) := rfl
@[simp] theorem forC_cons {B : α → σ → Res (Ctl β σ)} {s : σ} {a : α} {as : List α} : forC B (a :: as) s = (B a s).bind (stC (forC B as)) := rfl
@[simp] theorem stC_next {k : σ → Res (Ctl β σ)} {s : σ} : stC k (.next s) = k s := rfl
@[simp] theorem stC_cnt {k : σ → Res (Ctl β σ)} {s : σ} : stC k (.cnt s) = k s := rfl
@[simp] theorem stC_brk {k : σ → Res (Ctl β σ)} {s : σ} : stC k (.brk s) = .ok (.next s) := rfl
@[simp] theorem stC_ret {k : σ → Res (Ctl β σ)} {b : β} : stC k (.ret b) = .ok (.ret b) := rfl
theorem forN_run {Q : σ → List Slot} {Pb : α → σ → List Slot} {gg : GG} {B : α → σ → Res σ} (hg : ∀ a s, GtT (Q s) r a gg (Pb a s)) (hb : ∀ a s, Bl pe (Pb a s) (phN Q) (B a s) f) : ∀ {as : List α} {ds : List D} (s : σ) {ρ : Rho}, Al r as ds → Env (Q s) ρ → RelO pe (phN Q) (forN B as s) (forD gg f ds ρ)
  | _, _, s, ρ, .nil, E => ⟨ρ, rfl, E⟩
  | a :: as, d :: ds, s, ρ, .cons h t, E => by
    obtain ⟨ρ1, q, E1⟩ := hg a s ρ d E h
    rw [for_cons q, forN_cons]
    have hh := hb a s ρ1 E1
    cases z : B a s with
    | ok s' =>
      rw [z] at hh
      obtain ⟨ρ2, q2, E2⟩ := hh
      rw [q2]
      exact forN_run hg hb s' t E2
    | err c fs => rw [z] at hh; obtain ⟨ρ2, q2, E2⟩ := hh; rw [q2]; exact ⟨ρ2, rfl, E2⟩
    | stuck => trivial
theorem forC_run {Q : σ → List Slot} {Pb : α → σ → List Slot} {gg : GG} {B : α → σ → Res (Ctl β σ)} (hg : ∀ a s, GtT (Q s) r a gg (Pb a s)) (hb : ∀ a s, Bl pe (Pb a s) (phC rb Q) (B a s) f) : ∀ {as : List α} {ds : List D} (s : σ) {ρ : Rho}, Al r as ds → Env (Q s) ρ → RelO pe (phC rb Q) (forC B as s) (forD gg f ds ρ)
  | _, _, s, ρ, .nil, E => ⟨ρ, rfl, E⟩
  | a :: as, d :: ds, s, ρ, .cons h t, E => by
    obtain ⟨ρ1, q, E1⟩ := hg a s ρ d E h
    rw [for_cons q, forC_cons]
    have hh := hb a s ρ1 E1
    cases z : B a s with
    | ok c =>
      rw [z] at hh
      cases c with
      | next s' => obtain ⟨ρ2, q2, E2⟩ := hh; rw [q2]; exact forC_run hg hb s' t E2
      | cnt s' => obtain ⟨ρ2, q2, E2⟩ := hh; rw [q2]; exact forC_run hg hb s' t E2
      | brk s' => obtain ⟨ρ2, q2, E2⟩ := hh; rw [q2]; exact ⟨ρ2, rfl, E2⟩
      | ret b => obtain ⟨d, q2, z2⟩ := hh; rw [q2]; exact ⟨d, rfl, z2⟩
    | err c fs => rw [z] at hh; obtain ⟨ρ2, q2, E2⟩ := hh; rw [q2]; exact ⟨ρ2, rfl, E2⟩
    | stuck => trivial
theorem b_forN {Q : σ → List Slot} {Pb : α → σ → List Slot} {gg : GG} {src : Rho → Res (List D)} {Ts : Res (List α)} {B : α → σ → Res σ} {s0 : σ} (hp : ∀ ρ, Env P ρ → pe ρ) (hs : SrcT P r Ts src) (w : WkE P (Q s0)) (hg : ∀ a s, GtT (Q s) r a gg (Pb a s)) (hb : ∀ a s, Bl pe (Pb a s) (phN Q) (B a s) f) :
    Bl pe P (phN Q) (Ts.bind fun xs => forN B xs s0) (sFor gg src f) := fun ρ E => by
  have hs := hs ρ E
  rw [sFor_eq]
  cases Ts with
  | ok xs => obtain ⟨ds, q, z⟩ := hs; rw [q, ob_ok, rb_ok]; exact forN_run hg hb s0 z (w.env E)
  | err c fs => rw [show src ρ = .err c fs from hs]; exact ⟨ρ, rfl, hp ρ E⟩
  | stuck => trivial
theorem b_forC {Q : σ → List Slot} {Pb : α → σ → List Slot} {gg : GG} {src : Rho → Res (List D)} {Ts : Res (List α)} {B : α → σ → Res (Ctl β σ)} {s0 : σ} (hp : ∀ ρ, Env P ρ → pe ρ) (hs : SrcT P r Ts src) (w : WkE P (Q s0)) (hg : ∀ a s, GtT (Q s) r a gg (Pb a s)) (hb : ∀ a s, Bl pe (Pb a s) (phC rb Q) (B a s) f) :
    Bl pe P (phC rb Q) (Ts.bind fun xs => forC B xs s0) (sFor gg src f) := fun ρ E => by
  have hs := hs ρ E
  rw [sFor_eq]
  cases Ts with
  | ok xs => obtain ⟨ds, q, z⟩ := hs; rw [q, ob_ok, rb_ok]; exact forC_run hg hb s0 z (w.env E)
  | err c fs => rw [show src ρ = .err c fs from hs]; exact ⟨ρ, rfl, hp ρ E⟩
  | stuck => trivial
/-- a loop that only breaks or goes on: its state -/
def onN (W : σ → Res τ) : Ctl Unit σ → Res τ
  | .next s => W s
  | _ => .stuck
theorem b_seqB {Q : σ → List Slot} {T : Res (Ctl Unit σ)} {W : σ → Res τ} (h1 : Bl pe P (phC rN Q) T f) (h2 : ∀ s, Bl pe (Q s) Φ (W s) g) : Bl pe P Φ (T.bind (onN W)) (sSeq f g) := fun ρ E => by
  have h1 := h1 ρ E
  rw [sSeq_eq]
  cases T with
  | ok c =>
    cases c with
    | next s => obtain ⟨ρ', q, E'⟩ := h1; rw [q, oSeq_next]; exact h2 s ρ' E'
    | ret b => trivial
    | brk s => trivial
    | cnt s => trivial
  | err c fs => obtain ⟨ρ', q, E'⟩ := h1; rw [q]; exact ⟨ρ', rfl, E'⟩
  | stuck => trivial
@[simp] theorem onN_next {W : σ → Res τ} {s : σ} : onN W (.next s) = W s := rfl
/-! try -/
def tryT (T : Res τ) (H : Str → List (Str × V) → Res τ) : Res τ := match T with
  | .err c fs => H c fs
  | t => t
@[simp] theorem tryT_ok {t : τ} {H : Str → List (Str × V) → Res τ} : tryT (.ok t) H = .ok t := rfl
@[simp] theorem tryT_err {c : Str} {fs : List (Str × V)} {H : Str → List (Str × V) → Res τ} : tryT (.err c fs) H = H c fs := rfl
def clT (sub : Str → Str → Option Bool) (k c : Str) (H N : Res τ) : Res τ := match sub c k with
  | some true => H
  | some false => N
  | none => .stuck
theorem clT_yes {sub : Str → Str → Option Bool} {k c : Str} {H N : Res τ} (h : sub c k = some true) : clT sub k c H N = H := by unfold clT; rw [h]
theorem clT_no {sub : Str → Str → Option Bool} {k c : Str} {H N : Res τ} (h : sub c k = some false) : clT sub k c H N = N := by unfold clT; rw [h]
def HdT (sub : Str → Str → Option Bool) (pe : Rho → Prop) (P : List Slot) (Φ : Ph τ) (H : Str → List (Str × V) → Res τ) (hs : List ClD) : Prop := ∀ c fs ρ, Env P ρ → RelO pe Φ (H c fs) (handle sub c fs ρ hs)
theorem h_nil {sub : Str → Str → Option Bool} (hp : ∀ ρ, Env P ρ → pe ρ) : HdT sub pe P Φ (fun c fs => .err c fs) [] := fun c fs ρ E => ⟨ρ, rfl, hp ρ E⟩
def BeOf (o : Option Nat) (Φ' Φ : Ph τ) : Prop := ∀ t x, Φ' t x → Φ t (behindA o x)
theorem beF {o : Option Nat} : BeOf o (phF rb) (phF rb) := fun t x ⟨d, e, z⟩ => by rw [e]; exact ⟨d, rfl, z⟩
theorem beN {Q : σ → List Slot} : BeOf none (phN Q) (phN Q) := fun t x ⟨d, e, z⟩ => by rw [e]; exact ⟨d, rfl, z⟩
theorem beNs {Q : σ → List Slot} (h : ∀ s, UpS i (Q s) J (Q s)) : BeOf (some i) (phN Q) (phN Q) := fun t x ⟨d, e, z⟩ => by rw [e]; exact ⟨_, rfl, (h t).set z trivial⟩
/-- going on or returning -/
def phL (r : Rl β) (Q : σ → List Slot) : Ph (Ctl β σ) := fun t o => match t with
  | .next s => ∃ ρ', o = .next ρ' ∧ Env (Q s) ρ'
  | .ret b => ∃ d, o = .ret d ∧ r b d ∧ d.ret = true
  | _ => False
theorem beL {Q : σ → List Slot} : BeOf none (phL rb Q) (phC rb Q) := fun t x h => by
  cases t with
  | next s => obtain ⟨ρ', e, z⟩ := h; rw [e]; exact ⟨ρ', rfl, z⟩
  | ret b => obtain ⟨d, e, z⟩ := h; rw [e]; exact ⟨d, rfl, z⟩
  | brk s => exact h.elim
  | cnt s => exact h.elim
theorem beLs {Q : σ → List Slot} (hu : ∀ s, UpS i (Q s) J (Q s)) : BeOf (some i) (phL rb Q) (phC rb Q) := fun t x h => by
  cases t with
  | next s => obtain ⟨ρ', e, z⟩ := h; rw [e]; exact ⟨_, rfl, (hu s).set z trivial⟩
  | ret b => obtain ⟨d, e, z⟩ := h; rw [e]; exact ⟨d, rfl, z⟩
  | brk s => exact h.elim
  | cnt s => exact h.elim
theorem b_retL {Q : σ → List Slot} {T : Res β} (h : Bl pe P (phF rb) T f) : Bl pe P (phL rb Q) (T.bind fun b => .ok (.ret b)) f := fun ρ E => by
  have h := h ρ E
  cases T with
  | ok b => exact h
  | err c fs => exact h
  | stuck => trivial
theorem b_retLp {Q : σ → List Slot} (h : Bl pe P (phF rb) (.ok b) f) : Bl pe P (phL rb Q) (.ok (.ret b)) f := b_retL h
theorem b_nilL {Q : σ → List Slot} {s : σ} (w : WkE P (Q s)) : Bl pe P (phL rb Q) (.ok (.next s)) sNil := fun ρ E => ⟨ρ, rfl, w.env E⟩
theorem h_cons {sub : Str → Str → Option Bool} {x : Str} {hf : List (Str × V) → Rho → Out} {hs : List ClD} {Hx : List (Str × V) → Res τ} {N : Str → List (Str × V) → Res τ} {Φ' : Ph τ} (be : BeOf none Φ' Φ) (h : ∀ fs, Bl (fun _ => False) P Φ' (Hx fs) (hf fs)) (n : HdT sub pe P Φ N hs) : HdT sub pe P Φ (fun c fs => clT sub x c (Hx fs) (N c fs)) (⟨x, none, hf⟩ :: hs) := fun c fs ρ E => by
  show RelO pe Φ (clT sub x c (Hx fs) (N c fs)) _
  cases z : sub c x with
  | none => unfold clT; rw [z]; trivial
  | some b =>
    cases b with
    | true =>
      rw [clT_yes z]
      rw [handle_yes (kk := ⟨x, none, hf⟩) z]
      show RelO pe Φ (Hx fs) (behindA none (hf fs ρ))
      have hh := h fs ρ E
      cases w : Hx fs with
      | ok t => rw [w] at hh; exact be t _ hh
      | err c' fs' => rw [w] at hh; obtain ⟨_, _, k⟩ := hh; exact k.elim
      | stuck => trivial
    | false =>
      rw [clT_no z]
      rw [handle_no (kk := ⟨x, none, hf⟩) z]
      exact n c fs ρ E
theorem WkE.lt : ∀ {P Q : List Slot} {i : Nat} {p : Slot} {ρ : Rho}, UpS i P p Q → Env P ρ → i < ρ.length
  | _, _, _, _, _, .z, .cons _ _ => Nat.succ_pos _
  | _, _, _, _, _, .s u, .cons _ t => Nat.succ_lt_succ (WkE.lt u t)
theorem h_consA {sub : Str → Str → Option Bool} {x : Str} {hf : List (Str × V) → Rho → Out} {hs : List ClD} {Hx : List (Str × V) → Res τ} {N : Str → List (Str × V) → Res τ} {Φ' : Ph τ} (u : UpS i P J P0) (be : BeOf (some i) Φ' Φ) (h : ∀ fs, Bl (fun _ => False) P0 Φ' (Hx fs) (hf fs)) (n : HdT sub pe P Φ N hs) : HdT sub pe P Φ (fun c fs => clT sub x c (Hx fs) (N c fs)) (⟨x, some i, hf⟩ :: hs) := fun c fs ρ E => by
  show RelO pe Φ (clT sub x c (Hx fs) (N c fs)) _
  cases z : sub c x with
  | none => unfold clT; rw [z]; trivial
  | some b =>
    cases b with
    | true =>
      rw [clT_yes z]
      rw [handle_yes (kk := ⟨x, some i, hf⟩) z]
      rw [if_pos (show slotOk ρ (some i) = true from decide_eq_true (WkE.lt u E))]
      show RelO pe Φ (Hx fs) (behindA (some i) (hf fs (ρ.set i none)))
      have hh := h fs (ρ.set i none) (u.set E trivial)
      cases w : Hx fs with
      | ok t => rw [w] at hh; exact be t _ hh
      | err c' fs' => rw [w] at hh; obtain ⟨_, _, k⟩ := hh; exact k.elim
      | stuck => trivial
    | false =>
      rw [clT_no z]
      rw [handle_no (kk := ⟨x, some i, hf⟩) z]
      exact n c fs ρ E
class NE (Φ : Ph τ) : Prop where
  h : ∀ t c fs ρ, ¬ Φ t (.err c fs ρ)
instance {Q : σ → List Slot} : NE (phN Q) := ⟨fun t c fs ρ ⟨_, e, _⟩ => nomatch e⟩
instance : NE (phF rb) := ⟨fun t c fs ρ ⟨_, e, _⟩ => nomatch e⟩
instance {Q : σ → List Slot} : NE (phC rb Q) := ⟨fun t c fs ρ h => by
  cases t with
  | next s => obtain ⟨_, e, _⟩ := h; cases e
  | ret b => obtain ⟨_, e, _⟩ := h; cases e
  | brk s => obtain ⟨_, e, _⟩ := h; cases e
  | cnt s => obtain ⟨_, e, _⟩ := h; cases e⟩
theorem b_try [ne : NE Φ] {sub : Str → Str → Option Bool} {hs : List ClD} {T : Res τ} {H : Str → List (Str × V) → Res τ} {Pe : List Slot} (hb : Bl (Env Pe) P Φ T f) (hh : HdT sub pe Pe Φ H hs) : Bl pe P Φ (tryT T H) (sTry sub f hs) := fun ρ E => by
  have hb := hb ρ E
  rw [sTry_eq]
  cases T with
  | ok t =>
    show RelO pe Φ (.ok t) _
    cases q : f ρ with
    | err c fs ρ' => rw [q] at hb; exact absurd hb (ne.h _ _ _ _)
    | next ρ' => rw [q] at hb; exact hb
    | ret d => rw [q] at hb; exact hb
    | brk ρ' => rw [q] at hb; exact hb
    | cnt ρ' => rw [q] at hb; exact hb
    | stuck => rw [q] at hb; exact hb
  | err c fs =>
    obtain ⟨ρ', q, E'⟩ := hb
    rw [q, tryO_err]
    exact hh c fs ρ' E'
  | stuck => trivial
/-- e.f in a suite -/
def xfI (fs : List (Str × V)) (f : Str) : Res Int := match fs.lookup f with
  | some (.int i) => .ok i
  | _ => .stuck
def xfS (fs : List (Str × V)) (f : Str) : Res Str := match fs.lookup f with
  | some (.str i) => .ok i
  | _ => .stuck
theorem t_xfI {fs : List (Str × V)} {f : Str} : EvT P rI (xfI fs f) (eXf fs f) := fun ρ E => by
  rw [eXf_eq]
  unfold xfI
  cases fs.lookup f with
  | none => trivial
  | some v => cases v <;> first | exact rel_ok rfl | trivial
theorem t_xfS {fs : List (Str × V)} {f : Str} : EvT P rS (xfS fs f) (eXf fs f) := fun ρ E => by
  rw [eXf_eq]
  unfold xfS
  cases fs.lookup f with
  | none => trivial
  | some v => cases v <;> first | exact rel_ok rfl | trivial
/-! defs -/
theorem Env.nones : ∀ n : Nat, Env (List.replicate n J) (List.replicate n none)
  | 0 => .nil
  | n + 1 => .cons trivial (Env.nones n)
theorem f_ret {ds : List D} {n : Nat} {T : Res β} (h : Bl pT P (phF rb) T f) (E : Env P (ds.map some ++ List.replicate n none)) : RelE rb T (runF f n ds) := by
  have h := h _ E
  rw [runF_eq]
  cases T with
  | ok b => obtain ⟨d, q, z, c⟩ := h; rw [q, outF_ret, if_pos c]; exact ⟨d, rfl, z⟩
  | err c fs => obtain ⟨ρ', q, _⟩ := h; rw [q, outF_err]; exact (rfl : (Res.err c fs : Res D) = _)
  | stuck => trivial
theorem f_non {ds : List D} {n : Nat} {T : Res Unit} {Q : Unit → List Slot} (h : Bl pT P (phN Q) T f) (E : Env P (ds.map some ++ List.replicate n none)) : RelE rN T (runF f n ds) := by
  have h := h _ E
  rw [runF_eq]
  cases T with
  | ok b => obtain ⟨ρ', q, z⟩ := h; rw [q, outF_next]; exact ⟨_, rfl, rfl⟩
  | err c fs => obtain ⟨ρ', q, _⟩ := h; rw [q, outF_err]; exact (rfl : (Res.err c fs : Res D) = _)
  | stuck => trivial
def onO : Ctl β σ → Res (Option β)
  | .ret b => .ok (some b)
  | .next _ => .ok none
  | _ => .stuck
/-- a def that may end without a return -/
theorem f_opt {ds : List D} {n : Nat} {T : Res (Ctl (Option β) σ)} {Q : σ → List Slot} (h : Bl pT P (phC (rO rb) Q) T f) (E : Env P (ds.map some ++ List.replicate n none)) : RelE (rO rb) (T.bind (onF fun _ => .ok none)) (runF f n ds) := by
  have h := h _ E
  rw [runF_eq]
  cases T with
  | ok c =>
    cases c with
    | next s => obtain ⟨ρ', q, z⟩ := h; rw [q, outF_next]; exact ⟨_, rfl, rfl⟩
    | ret b => obtain ⟨d, q, z, c⟩ := h; rw [q, outF_ret, if_pos c]; exact ⟨d, rfl, z⟩
    | brk s => trivial
    | cnt s => trivial
  | err c fs => obtain ⟨ρ', q, _⟩ := h; rw [q, outF_err]; exact (rfl : (Res.err c fs : Res D) = _)
  | stuck => trivial
/-! __init__ -/
def SO (c : Str) (F : List (Str × (D → Prop))) : Slot := fun o => ∃ fl, o = some (.obj c fl) ∧ PF F fl
theorem PF.put {g : Str} {p : D → Prop} {d : D} (hd : p d) : ∀ {F : List (Str × (D → Prop))} {fl : List (Str × D)}, PF F fl → F.lookup g = none → PF (F ++ [(g, p)]) (putD g d fl)
  | _, _, .nil, _ => .cons hd .nil
  | (f', p') :: F, _, .cons (d := d') (ds := ds) h t, e => by
    by_cases c : g = f'
    · subst c
      simp only [List.lookup, beq_self_eq_true] at e
      cases e
    · have c' : (g == f') = false := by simpa using c
      simp only [List.lookup, c'] at e
      show PF _ (if f' = g then _ else _)
      rw [if_neg (fun z => c z.symm)]
      exact .cons h (t.put hd e)
theorem PF.len : ∀ {F : List (Str × (D → Prop))} {fl : List (Str × D)}, PF F fl → fl.length = F.length
  | _, _, .nil => rfl
  | _, _, .cons _ t => congrArg (· + 1) t.len
theorem b_fld {c gf : Str} {F : List (Str × (D → Prop))} {Pr : List Slot} {V : α → Res τ} [w : IsDup r] [w2 : IsRet r] (hp : ∀ ρ, Env (SO c F :: Pr) ρ → pe ρ) (he : EvT (SO c F :: Pr) r T e) (hn : F.lookup gf = none) (hl : F.length < 1000) (n : ∀ a, Bl pe (SO c (F ++ [(gf, r a)]) :: Pr) Φ (V a) g) :
    Bl pe (SO c F :: Pr) Φ (T.bind V) (sSeq (sFld c gf e) g) := fun ρ E => by
  have hq := hp ρ E
  have h := he ρ E
  cases E with
  | cons h0 E =>
    obtain ⟨fl, rfl, pf⟩ := h0
    rw [sSeq_eq, sFld_eq]
    show RelO pe Φ _ (oSeq (fldO c gf _ (e _) (some (some (.obj c fl)))) g)
    rw [fldO_obj, oSeq_ob]
    refine ob_rel hq h fun a d z => ?_
    rw [fldP_eq, if_pos ⟨w.h z, w2.h z, by rw [pf.len]; exact hl⟩, oSeq_next]
    exact n a _ (.cons ⟨_, rfl, pf.put z hn⟩ E)
theorem f_init {c : Str} {ds : List D} {n : Nat} {T : Res α} {F : α → List (Str × (D → Prop))} {Q : α → List Slot} (hQ : ∀ a, ∃ R, Q a = SO c (F a) :: R) (h : Bl pT P (phN Q) T f) (E : Env P ((some (.obj c []) :: ds.map some) ++ List.replicate n none)) : RelI F T (runI f c n ds) := by
  have h := h _ E
  rw [runI_eq]
  cases T with
  | ok a =>
    obtain ⟨ρ', q, z⟩ := h
    obtain ⟨R, e⟩ := hQ a
    rw [q, outI_next]
    rw [e] at z
    cases z with
    | cons h0 E' =>
      obtain ⟨fl, rfl, pf⟩ := h0
      exact ⟨fl, by show endI c (some (some (.obj c fl))) = _; rw [endI_obj], pf⟩
  | err c fs => obtain ⟨ρ', q, _⟩ := h; rw [q, outI_err]; exact (rfl : (Res.err c fs : Res (List (Str × D))) = _)
  | stuck => trivial
theorem sl {d : D} (h : r a d) : Sl r a (some d) := ⟨d, rfl, h⟩
theorem so {c : Str} : SO c [] (some (.obj c [])) := ⟨[], rfl, .nil⟩
end
end DH
/-! Typed readings of mirrors: more rules as tgen prints them. -/
namespace DH
open PySem L2
section
variable {α β γ σ σ' τ κ : Type} {P P' P0 Q0 : List Slot} {r ra : Rl α} {rb : Rl β} {rc : Rl γ} {T : Res α} {e e1 e2 e3 : Rho → Res D} {es : Rho → Res (List D)} {a : α} {b : β} {m m' : Md} {i j : Nat} {d d' : D} {xs ys : List α} {pe pe' : Rho → Prop} {Φ Φ' : Ph τ} {f g h : Rho → Out} {U : Res τ}
theorem b_assoc (hb : Bl pe P Φ U (sSeq f (sSeq g h))) : Bl pe P Φ U (sSeq (sSeq f g) h) := fun ρ E => by
  have z := hb ρ E
  rw [sSeq_eq] at z
  rw [sSeq_eq, sSeq_eq]
  cases q : f ρ with
  | next ρ' => rw [q, oSeq_next, sSeq_eq] at z; rw [oSeq_next]; exact z
  | ret d => rw [q] at z; exact z
  | brk ρ' => rw [q] at z; exact z
  | cnt ρ' => rw [q] at z; exact z
  | err c fs ρ' => rw [q] at z; exact z
  | stuck => rw [q] at z; exact z
theorem b_nilS (hb : Bl pe P Φ U g) : Bl pe P Φ U (sSeq sNil g) := fun ρ E => hb ρ E
theorem b_frzS (hb : Bl pe P Φ U (sFrz i (sSeq f g))) : Bl pe P Φ U (sSeq (sFrz i f) g) := fun ρ E => by
  have z := hb ρ E
  rw [sFrz_eq] at z
  rw [sSeq_eq, sFrz_eq]
  cases q : ρ[i]? with
  | none => rw [q] at z; exact z
  | some o =>
    cases o with
    | none => rw [q] at z; exact z
    | some d =>
      rw [q, frzO_some] at z
      rw [frzO_some]
      by_cases c : d.ret = true
      · rw [if_pos c] at z ⊢; rw [sSeq_eq] at z; exact z
      · rw [if_neg c] at z ⊢; exact z
variable {t : Rho → Res Bool} {p : Bool} {S : Res Bool} {A B : Res τ}
theorem RelO.ex {o : Out} (x : ExOf Φ' Φ) (h1 : RelO pe Φ' A o) : RelO pe Φ A (oSeq o g) := by
  cases A with
  | ok s =>
    obtain ⟨z, nx⟩ := x s _ h1
    cases o with
    | next ρ' => exact absurd rfl (nx ρ')
    | ret d => exact z
    | brk ρ' => exact z
    | cnt ρ' => exact z
    | err c fs ρ' => exact z
    | stuck => exact z
  | err c fs => obtain ⟨ρ', q, E'⟩ := h1; rw [q]; exact ⟨ρ', rfl, E'⟩
  | stuck => trivial
/-- the first branch leaves -/
theorem b_ifxe (x : ExOf Φ' Φ) (ht : EtT P (.ok p) t) (h1 : Bl pe P Φ' A f) (h2 : Bl pe P Φ B (sSeq g h)) : Bl pe P Φ (if p = true then A else B) (sSeq (sIf t f g) h) := fun ρ E => by
  rw [sSeq_eq, sIf_eq, show t ρ = .ok p from ht ρ E, ob_ok]
  cases p
  · have z := h2 ρ E; rw [sSeq_eq] at z; exact z
  · exact (h1 ρ E).ex x
theorem b_ifxer (x : ExOf Φ' Φ) (hp : ∀ ρ, Env P ρ → pe ρ) (ht : EtT P S t) (h1 : Bl pe P Φ' A f) (h2 : Bl pe P Φ B (sSeq g h)) : Bl pe P Φ (S.bind fun p => if p = true then A else B) (sSeq (sIf t f g) h) := fun ρ E => by
  have k := ht ρ E
  cases S with
  | ok p =>
    rw [sSeq_eq, sIf_eq, show t ρ = .ok p from k, ob_ok]
    cases p
    · have z := h2 ρ E; rw [sSeq_eq] at z; exact z
    · exact (h1 ρ E).ex x
  | err c fs => rw [sSeq_eq, sIf_eq, show t ρ = .err c fs from k]; exact ⟨ρ, rfl, hp ρ E⟩
  | stuck => trivial
/-- the second branch leaves -/
theorem b_ifex (x : ExOf Φ' Φ) (ht : EtT P (.ok p) t) (h1 : Bl pe P Φ A (sSeq f h)) (h2 : Bl pe P Φ' B g) : Bl pe P Φ (if p = true then A else B) (sSeq (sIf t f g) h) := fun ρ E => by
  rw [sSeq_eq, sIf_eq, show t ρ = .ok p from ht ρ E, ob_ok]
  cases p
  · exact (h2 ρ E).ex x
  · have z := h1 ρ E; rw [sSeq_eq] at z; exact z
theorem b_ifexr (x : ExOf Φ' Φ) (hp : ∀ ρ, Env P ρ → pe ρ) (ht : EtT P S t) (h1 : Bl pe P Φ A (sSeq f h)) (h2 : Bl pe P Φ' B g) : Bl pe P Φ (S.bind fun p => if p = true then A else B) (sSeq (sIf t f g) h) := fun ρ E => by
  have k := ht ρ E
  cases S with
  | ok p =>
    rw [sSeq_eq, sIf_eq, show t ρ = .ok p from k, ob_ok]
    cases p
    · exact (h2 ρ E).ex x
    · have z := h1 ρ E; rw [sSeq_eq] at z; exact z
  | err c fs => rw [sSeq_eq, sIf_eq, show t ρ = .err c fs from k]; exact ⟨ρ, rfl, hp ρ E⟩
  | stuck => trivial
/-- what is behind goes into both branches -/
theorem b_ifd (ht : EtT P (.ok p) t) (h1 : Bl pe P Φ A (sSeq f h)) (h2 : Bl pe P Φ B (sSeq g h)) : Bl pe P Φ (if p = true then A else B) (sSeq (sIf t f g) h) := fun ρ E => by
  rw [sSeq_eq, sIf_eq, show t ρ = .ok p from ht ρ E, ob_ok]
  cases p
  · have z := h2 ρ E; rw [sSeq_eq] at z; exact z
  · have z := h1 ρ E; rw [sSeq_eq] at z; exact z
theorem b_ifdr (hp : ∀ ρ, Env P ρ → pe ρ) (ht : EtT P S t) (h1 : Bl pe P Φ A (sSeq f h)) (h2 : Bl pe P Φ B (sSeq g h)) : Bl pe P Φ (S.bind fun p => if p = true then A else B) (sSeq (sIf t f g) h) := fun ρ E => by
  have k := ht ρ E
  cases S with
  | ok p =>
    rw [sSeq_eq, sIf_eq, show t ρ = .ok p from k, ob_ok]
    cases p
    · have z := h2 ρ E; rw [sSeq_eq] at z; exact z
    · have z := h1 ρ E; rw [sSeq_eq] at z; exact z
  | err c fs => rw [sSeq_eq, sIf_eq, show t ρ = .err c fs from k]; exact ⟨ρ, rfl, hp ρ E⟩
  | stuck => trivial
theorem b_forNp {Q : σ → List Slot} {Pb : α → σ → List Slot} {gg : GG} {src : Rho → Res (List D)} {B : α → σ → Res σ} {s0 : σ} (hs : SrcT P r (.ok xs) src) (w : WkE P (Q s0)) (hg : ∀ a s, GtT (Q s) r a gg (Pb a s)) (hb : ∀ a s, Bl pe (Pb a s) (phN Q) (B a s) f) :
    Bl pe P (phN Q) (forN B xs s0) (sFor gg src f) := fun ρ E => by
  obtain ⟨ds, q, z⟩ := hs ρ E
  rw [sFor_eq, q, ob_ok]; exact forN_run hg hb s0 z (w.env E)
theorem b_forCp {Q : σ → List Slot} {Pb : α → σ → List Slot} {gg : GG} {src : Rho → Res (List D)} {B : α → σ → Res (Ctl β σ)} {s0 : σ} (hs : SrcT P r (.ok xs) src) (w : WkE P (Q s0)) (hg : ∀ a s, GtT (Q s) r a gg (Pb a s)) (hb : ∀ a s, Bl pe (Pb a s) (phC rb Q) (B a s) f) :
    Bl pe P (phC rb Q) (forC B xs s0) (sFor gg src f) := fun ρ E => by
  obtain ⟨ds, q, z⟩ := hs ρ E
  rw [sFor_eq, q, ob_ok]; exact forC_run hg hb s0 z (w.env E)
/-- a, b = e, e worth a -/
theorem b_unpp {Pn : α → List Slot} {gg : GG} {V : α → Res τ} [w : IsDup r] (he : EvT P r (.ok a) e) (u : ∀ a, GtT P r a gg (Pn a)) (n : ∀ a, Bl pe (Pn a) Φ (V a) g) : Bl pe P Φ (letR a V) (sSeq (sUnp gg e) g) := fun ρ E => by
  obtain ⟨d, q, z⟩ := he ρ E
  obtain ⟨ρ', q2, E'⟩ := u a ρ d E z
  rw [sSeq_eq, sUnp_eq, q, ob_ok, if_pos (w.h z), q2, unpO_some, oSeq_next]
  exact n a _ E'
theorem b_augp {op : Int → Int → Int} {x y : Int} {Pn : Int → List Slot} {V : Int → Res τ} (hx : AtS i P (Sl rI x)) (he : EvT P rI (.ok y) e) (u : ∀ a, UpS i P (Sl rI a) (Pn a)) (n : ∀ a, Bl pe (Pn a) Φ (V a) g) : Bl pe P Φ (letR (op x y) V) (sSeq (sAug op i e) g) := fun ρ E => by
  obtain ⟨o, q, d, rfl, z⟩ := hx.get E
  have z : d = .int x := z
  subst z
  obtain ⟨d, q2, z⟩ := he ρ E
  have z : d = .int y := z
  subst z
  rw [sSeq_eq, sAug_eq, q, augO_int, q2, ob_ok, augP_int, oSeq_next]
  exact n _ _ ((u _).set E ⟨_, rfl, rfl⟩)
theorem b_appp {Pn : List α → List Slot} {V : List α → Res τ} [w : IsRet r] (hx : AtS i P (Sl (rL .own r) xs)) (he : EvT P r (.ok a) e) (u : ∀ a, UpS i P (Sl (rL .own r) a) (Pn a)) (n : ∀ a, Bl pe (Pn a) Φ (V a) g) : Bl pe P Φ ((appR xs a).bind V) (sSeq (sApp i e) g) := fun ρ E => by
  obtain ⟨o, q, d, rfl, k, ds, hk, rfl, h⟩ := hx.get E
  cases k <;> first | cases hk; done | skip
  obtain ⟨d, q2, z⟩ := he ρ E
  rw [sSeq_eq, sApp_eq, q, appO_own, q2, ob_ok]
  unfold appR appP
  by_cases c : xs.length < LINE
  · rw [if_pos c, if_pos ⟨w.h z, by rw [h.len]; exact c⟩, oSeq_next]
    exact n _ _ ((u _).set E ⟨_, rfl, .own, _, rfl, rfl, h.app (.cons z .nil)⟩)
  · rw [if_neg c]; trivial
theorem b_ixp {k : Int} {ej : Rho → Res D} {Pn : List α → List Slot} {V : List α → Res τ} [w : IsRet r] [w2 : IsDup r] (hx : AtS i P (Sl (rL .own r) xs)) (he : EvT P r (.ok a) e) (hj : EvT P rI (.ok k) ej) (u : ∀ a, UpS i P (Sl (rL .own r) a) (Pn a)) (n : ∀ a, Bl pe (Pn a) Φ (V a) g) :
    Bl pe P Φ ((setR xs k a).bind V) (sSeq (sIx i ej e) g) := fun ρ E => by
  obtain ⟨o, q, d, rfl, k', ds, hk, rfl, h⟩ := hx.get E
  cases k' <;> first | cases hk; done | skip
  obtain ⟨d, q2, z⟩ := he ρ E
  obtain ⟨d2, q3, z2⟩ := hj ρ E
  have z2 : d2 = .int k := z2
  subst z2
  rw [sSeq_eq, sIx_eq, q, setO_own, q2, ob_ok, q3, ob_ok, setJ_int]
  unfold setR
  rw [h.len]
  cases c : ixN xs.length k with
  | none => trivial
  | some m =>
    rw [setP_of (w.h z) (w2.h z) h.dup, oSeq_next]
    exact n _ _ ((u _).set E ⟨_, rfl, .own, _, rfl, rfl, h.set z m⟩)
theorem b_raise1p {c fl : Str} {v : α → V} [w : Sca r v] (hp : ∀ ρ, Env P ρ → pe ρ) (he : EvT P r (.ok a) e) : Bl pe P Φ (.err c [(fl, v a)]) (sRaise c [fl] (aCons e aNil)) := b_raise1 (T := .ok a) hp he
theorem b_raise2p {c fl fm : Str} {v : α → V} {v' : β → V} [w : Sca r v] [w' : Sca rb v'] (hp : ∀ ρ, Env P ρ → pe ρ) (he : EvT P r (.ok a) e) (he2 : EvT P rb (.ok b) e2) : Bl pe P Φ (.err c [(fm, v' b), (fl, v a)]) (sRaise c [fl, fm] (aCons e (aCons e2 aNil))) := b_raise2 (T := .ok a) (T' := .ok b) hp he he2
theorem b_fldp {c gf : Str} {F : List (Str × (D → Prop))} {Pr : List Slot} {V : α → Res τ} [w : IsDup r] [w2 : IsRet r] (he : EvT (SO c F :: Pr) r (.ok a) e) (hn : F.lookup gf = none) (hl : F.length < 1000) (n : ∀ a, Bl pe (SO c (F ++ [(gf, r a)]) :: Pr) Φ (V a) g) :
    Bl pe (SO c F :: Pr) Φ (letR a V) (sSeq (sFld c gf e) g) := fun ρ E => by
  obtain ⟨d, q2, z⟩ := he ρ E
  cases E with
  | cons h0 E =>
    obtain ⟨fl, rfl, pf⟩ := h0
    rw [sSeq_eq, sFld_eq]
    show RelO pe Φ _ (oSeq (fldO c gf _ (e _) (some (some (.obj c fl)))) g)
    rw [fldO_obj, q2, ob_ok, fldP_eq, if_pos ⟨w.h z, w2.h z, by rw [pf.len]; exact hl⟩, oSeq_next]
    exact n a _ (.cons ⟨_, rfl, pf.put z hn⟩ E)
/-! what may be missing -/
def optR : Option α → Res α
  | some a => .ok a
  | none => .stuck
@[simp] theorem optR_some : optR (some a) = .ok a := rfl
theorem t_get {T : Res (Option α)} (h : EvT P (rO r) T e) : EvT P r (T.bind optR) e := fun ρ E => by
  have h := h ρ E
  cases T with
  | ok o =>
    cases o with
    | none => trivial
    | some a => exact h
  | err c fs => exact h
  | stuck => trivial
theorem t_getp {o : Option α} (h : EvT P (rO r) (.ok o) e) : EvT P r (optR o) e := t_get h
/-- a tuple as its items -/
class TQ (s : Rls α) (r : outParam (Rl β)) (f : outParam (α → List β)) : Prop where
  h : ∀ {a ds}, s a ds → Al r (f a) ds
instance : TQ (rs1 r) r (fun a => [a]) := ⟨fun ⟨d, e, h⟩ => by subst e; exact .cons h .nil⟩
instance (s : Rls β) (f : β → List α) [w : TQ s r f] : TQ (rsC r s) r (fun p => p.1 :: f p.2) := ⟨fun ⟨d, es, e, h, t⟩ => by subst e; exact .cons h (w.h t)⟩
theorem t_toQ {s : Rls α} {f : α → List β} [w : TQ s rb f] (h : EvT P (rT s) (.ok a) e) : EvT P (rQ rb) (.ok (f a)) e := fun ρ E => by
  obtain ⟨d, q, ds, e', z⟩ := h ρ E
  exact ⟨d, q, ds, e', w.h z⟩
theorem t_toQr {s : Rls α} {f : α → List β} [w : TQ s rb f] (h : EvT P (rT s) T e) : EvT P (rQ rb) (T.bind fun a => .ok (f a)) e := fun ρ E => by
  have h := h ρ E
  cases T with
  | ok a => obtain ⟨d, q, ds, e', z⟩ := h; exact ⟨d, q, ds, e', w.h z⟩
  | err c fs => exact h
  | stuck => trivial
/-! comprehensions whose source is known -/
variable {vs : List Nat} {src : Rho → Res (List D)} {gg : GG} {c : Rho → Res Bool} {ef : Rho → Res D} {Pw : List Slot} {Q : α → List Slot}
theorem t_compMp {f : α → β} [w : IsRet rb] (hs : SrcT P ra (.ok xs) src) (hw : WpE vs P Pw) (hg : ∀ a, GtT Pw ra a gg (Q a)) (hf : ∀ a, EvT (Q a) rb (.ok (f a)) ef) : EvT P (rL .own rb) (lenG (xs.map f)) (eComp vs src gg bYes ef) := t_compM hs hw hg hf
theorem t_compFp {p : α → Bool} {f : α → β} [w : IsRet rb] (hs : SrcT P ra (.ok xs) src) (hw : WpE vs P Pw) (hg : ∀ a, GtT Pw ra a gg (Q a)) (hc : ∀ a, EtT (Q a) (.ok (p a)) c) (hf : ∀ a, EvT (Q a) rb (.ok (f a)) ef) : EvT P (rL .own rb) (lenG ((xs.filter p).map f)) (eComp vs src gg c ef) := t_compF hs hw hg hc hf
theorem t_compRp {f : α → Res β} [w : IsRet rb] (hs : SrcT P ra (.ok xs) src) (hw : WpE vs P Pw) (hg : ∀ a, GtT Pw ra a gg (Q a)) (hf : ∀ a, EvT (Q a) rb (f a) ef) : EvT P (rL .own rb) ((mapR f xs).bind lenG) (eComp vs src gg bYes ef) := t_compR hs hw hg hf
theorem t_compGp {p : α → Res Bool} {f : α → Res β} [w : IsRet rb] (hs : SrcT P ra (.ok xs) src) (hw : WpE vs P Pw) (hg : ∀ a, GtT Pw ra a gg (Q a)) (hc : ∀ a, EtT (Q a) (p a) c) (hf : ∀ a, EvT (Q a) rb (f a) ef) : EvT P (rL .own rb) ((compR p f xs).bind lenG) (eComp vs src gg c ef) := t_compG hs hw hg hc hf
theorem t_ofLd {T : Res (List α)} [w : Itm m r] (h : EvT P (rL m r) T e) : SrcT P r T (iOf e) := by
  have z := t_ofLr h
  cases T <;> exact z
theorem t_ofQd {T : Res (List α)} [IsDup r] (h : EvT P (rQ r) T e) : SrcT P r T (iOf e) := by
  have z := t_ofQr h
  cases T <;> exact z
theorem t_nwLd {T : Res (List α)} [w : New m r] (h : EvT P (rL m r) T e) : SrcT P r T (iNew e) := by
  have z := t_nwLr h
  cases T <;> exact z
theorem t_rg1p {i : Int} (h : EvT P rI (.ok i) e) : SrcT P rI (rg1R i) (iRg rng1D (aCons e aNil)) := t_rg1 h
theorem t_rg2p {i j : Int} (h : EvT P rI (.ok i) e) (h2 : EvT P rI (.ok j) e2) : SrcT P rI (rg2R i j) (iRg rng2D (aCons e (aCons e2 aNil))) := t_rg2 h h2
theorem t_rgLit {i : Int} {n : Nat} (hi : rg1R i = .ok (rgI 0 n)) (h : EvT P rI (.ok i) e) : SrcT P rI (.ok (rgI 0 n)) (iRg rng1D (aCons e aNil)) := by
  have z : SrcT P rI (rg1R i) (iRg rng1D (aCons e aNil)) := t_rg1 h
  rw [hi] at z
  exact z
/-- what errs within a suite is not told -/
@[simp] theorem noErr_okq {a : α} : noErr (Res.ok a) = .ok a := ndq rfl
theorem h_consN {sub : Str → Str → Option Bool} {x : Str} {hf : List (Str × V) → Rho → Out} {hs : List ClD} {Hx : List (Str × V) → Res τ} {N : Str → List (Str × V) → Res τ} (be : BeOf none Φ' Φ) (h : ∀ fs, Bl pT P Φ' (Hx fs) (hf fs)) (n : HdT sub pe P Φ N hs) : HdT sub pe P Φ (fun c fs => clT sub x c (noErr (Hx fs)) (N c fs)) (⟨x, none, hf⟩ :: hs) :=
  h_cons be (fun fs ρ E => by
    have z := h fs ρ E
    cases w : Hx fs with
    | ok t => rw [w] at z; exact z
    | err c f => trivial
    | stuck => trivial) n
theorem h_consNA {sub : Str → Str → Option Bool} {x : Str} {hf : List (Str × V) → Rho → Out} {hs : List ClD} {Hx : List (Str × V) → Res τ} {N : Str → List (Str × V) → Res τ} (u : UpS i P J P0) (be : BeOf (some i) Φ' Φ) (h : ∀ fs, Bl pT P0 Φ' (Hx fs) (hf fs)) (n : HdT sub pe P Φ N hs) : HdT sub pe P Φ (fun c fs => clT sub x c (noErr (Hx fs)) (N c fs)) (⟨x, some i, hf⟩ :: hs) :=
  h_consA u be (fun fs ρ E => by
    have z := h fs ρ E
    cases w : Hx fs with
    | ok t => rw [w] at z; exact z
    | err c f => trivial
    | stuck => trivial) n
theorem b_nilCs {Q : σ → List Slot} {s : σ} (w : WkE P (Q s)) : Bl pe P (phC rb Q) (.ok (.next s)) sNil := b_nilC w
theorem b_XX {Q : σ → List Slot} {T : Res (Ctl β σ)} (h : Bl pe P (phX rb Q) T f) : Bl pe P (phX rb Q) T f := h
theorem f_unit {ds : List D} {n : Nat} {T : Res Unit} (h : Bl pT P (phF rN) T f) (E : Env P (ds.map some ++ List.replicate n none)) : RelE rN T (runF f n ds) := f_ret h E
/-! comparing -/
theorem eqD_plain {d e : D} (h : plain 12 d = true) (h2 : plain 12 e = true) : eqD d e = .ok (.bl (eqb d e)) := by
  have gen : (if plain 12 d = true ∧ plain 12 e = true then Res.ok (D.bl (eqb d e)) else .stuck) = .ok (.bl (eqb d e)) := if_pos ⟨h, h2⟩
  cases d <;> cases e <;> first
    | exact gen
    | (rename_i a b; rw [eqD_bb]; show _ = Res.ok (D.bl (a == b)); cases a <;> cases b <;> rfl)
    | (rename_i a b; rw [eqD_ii]; show _ = Res.ok (D.bl (a == b)); by_cases c : a = b <;> simp [c])
    | (rename_i a b; rw [eqD_ss]; show _ = Res.ok (D.bl (a == b)); by_cases c : a = b <;> simp [c])
    | (simp [eqD, sV, scal, eqb, toPy, PyData.eqv]; done)
mutual
theorem plain_mono : ∀ {n m : Nat} {d : D}, n ≤ m → plain n d = true → plain m d = true
  | n, m, .non, _, _ => by cases m <;> rfl
  | n, m, .bl _, _, _ => by cases m <;> rfl
  | n, m, .int _, _, _ => by cases m <;> rfl
  | n, m, .str x, _, h => by
    have h : PyData.strOk x = true := by cases n <;> exact h
    cases m <;> exact h
  | 0, m, .lst _ _, _, h => nomatch h
  | 0, m, .tup _, _, h => nomatch h
  | n + 1, 0, .lst _ xs, z, h => absurd z (by omega)
  | n + 1, 0, .tup xs, z, h => absurd z (by omega)
  | n + 1, m + 1, .lst _ xs, z, h => plainAll_mono (xs := xs) (by omega) h
  | n + 1, m + 1, .tup xs, z, h => plainAll_mono (xs := xs) (by omega) h
  | 0, m, .ins _ _, _, h => nomatch h
  | n + 1, m, .ins _ _, _, h => nomatch h
  | 0, m, .obj _ _, _, h => nomatch h
  | n + 1, m, .obj _ _, _, h => nomatch h
  | 0, m, .scr _, _, h => nomatch h
  | n + 1, m, .scr _, _, h => nomatch h
theorem plainAll_mono : ∀ {n m : Nat} {xs : List D}, n ≤ m → plainAll n xs = true → plainAll m xs = true
  | n, m, [], _, _ => by cases m <;> rfl
  | n, m, x :: xs, z, h => by
    have h : (plain n x && plainAll n xs) = true := by cases n <;> exact h
    obtain ⟨h1, h2⟩ := Bool.and_eq_true_iff.mp h
    have k : (plain m x && plainAll m xs) = true := Bool.and_eq_true_iff.mpr ⟨plain_mono z h1, plainAll_mono z h2⟩
    cases m <;> exact k
end
class PyE (r : Rl α) (py : outParam (α → PyData)) (ok : outParam (α → Bool)) (n : outParam Nat) : Prop where
  h : ∀ {a d}, r a d → toPy d = py a ∧ (ok a = true → plain n d = true)
class PyEs (r : Rls α) (py : outParam (α → List PyData)) (ok : outParam (α → Bool)) (n : outParam Nat) : Prop where
  h : ∀ {a d}, r a d → toPyAll d = py a ∧ (ok a = true → plainAll n d = true)
class PyI (py : α → PyData) (ok : α → Bool) [DecidableEq α] : Prop where
  h : ∀ {a b}, ok a = true → ok b = true → PyData.eqv (py a) (py b) = decide (a = b)
class PyIs (py : α → List PyData) (ok : α → Bool) [DecidableEq α] : Prop where
  h : ∀ {a b}, ok a = true → ok b = true → PyData.eqvAll (py a) (py b) = decide (a = b)
def okY (_ : α) : Bool := true
instance : PyE rI PyData.int okY 0 := ⟨fun {a d} h => by rw [show d = .int a from h]; exact ⟨rfl, fun _ => rfl⟩⟩
instance : PyE rB PyData.bool okY 0 := ⟨fun {a d} h => by rw [show d = .bl a from h]; exact ⟨rfl, fun _ => rfl⟩⟩
instance : PyE rS PyData.str PyData.strOk 0 := ⟨fun {a d} h => by rw [show d = .str a from h]; exact ⟨rfl, fun h => h⟩⟩
def pyN (_ : Unit) : PyData := .none
instance : PyE rN pyN okY 0 := ⟨fun {a d} h => by rw [show d = .non from h]; exact ⟨rfl, fun _ => rfl⟩⟩
def pyL (py : α → PyData) (xs : List α) : PyData := .list (xs.map py)
def pyQ (py : α → PyData) (xs : List α) : PyData := .tuple (xs.map py)
def py1 (py : α → PyData) (a : α) : List PyData := [py a]
def pyC (py : α → PyData) (pz : β → List PyData) (p : α × β) : List PyData := py p.1 :: pz p.2
def pyT (py : α → List PyData) (a : α) : PyData := .tuple (py a)
def pyO (py : α → PyData) : Option α → PyData
  | none => .none
  | some a => py a
def okL (ok : α → Bool) (xs : List α) : Bool := xs.all ok
def okC (ok : α → Bool) (ok' : β → Bool) (p : α × β) : Bool := ok p.1 && ok' p.2
def okO (ok : α → Bool) : Option α → Bool
  | none => true
  | some a => ok a
theorem Al.py {r : Rl α} {py : α → PyData} {ok : α → Bool} {n : Nat} [w : PyE r py ok n] : ∀ {xs : List α} {ds : List D}, Al r xs ds → toPyAll ds = xs.map py ∧ (okL ok xs = true → plainAll n ds = true)
  | _, _, .nil => ⟨rfl, fun _ => by cases n <;> rfl⟩
  | a :: as, d :: ds, .cons h t => by
    obtain ⟨h1, h2⟩ := w.h h
    obtain ⟨t1, t2⟩ := t.py (w := w)
    refine ⟨by show toPy d :: toPyAll ds = _; rw [h1, t1]; rfl, fun k => ?_⟩
    have k : (ok a && as.all ok) = true := k
    obtain ⟨k1, k2⟩ := Bool.and_eq_true_iff.mp k
    have z : (plain n d && plainAll n ds) = true := Bool.and_eq_true_iff.mpr ⟨h2 k1, t2 k2⟩
    cases n <;> exact z
instance (py : α → PyData) (ok : α → Bool) (n : Nat) [PyE r py ok n] : PyE (rL m r) (pyL py) (okL ok) (n + 1) := ⟨fun ⟨k, ds, _, e, h⟩ => by
  subst e; exact ⟨congrArg PyData.list h.py.1, h.py.2⟩⟩
instance (py : α → PyData) (ok : α → Bool) (n : Nat) [PyE r py ok n] : PyE (rQ r) (pyQ py) (okL ok) (n + 1) := ⟨fun ⟨ds, e, h⟩ => by
  subst e; exact ⟨congrArg PyData.tuple h.py.1, h.py.2⟩⟩
instance (py : α → PyData) (ok : α → Bool) (n : Nat) [w : PyE r py ok n] : PyEs (rs1 r) (py1 py) ok n := ⟨fun {a dd} ⟨d, e, h⟩ => by
  subst e
  obtain ⟨h1, h2⟩ := w.h h
  refine ⟨by show [toPy d] = _; rw [h1]; rfl, fun k => ?_⟩
  have z : (plain n d && plainAll n []) = true := by rw [h2 k]; cases n <;> rfl
  cases n <;> exact z⟩
instance (py : α → PyData) (ok : α → Bool) (n : Nat) (s : Rls β) (pz : β → List PyData) (ok' : β → Bool) (n' : Nat) [w : PyE r py ok n] [v : PyEs s pz ok' n'] : PyEs (rsC r s) (pyC py pz) (okC ok ok') (n + n') := ⟨fun {a dd} ⟨d, es, e, h, t⟩ => by
  subst e
  obtain ⟨h1, h2⟩ := w.h h
  obtain ⟨t1, t2⟩ := v.h t
  refine ⟨by show toPy d :: toPyAll es = _; rw [h1, t1]; rfl, fun k => ?_⟩
  obtain ⟨k1, k2⟩ := Bool.and_eq_true_iff.mp k
  have z : (plain (n + n') d && plainAll (n + n') es) = true := Bool.and_eq_true_iff.mpr ⟨plain_mono (by omega) (h2 k1), plainAll_mono (by omega) (t2 k2)⟩
  cases q : n + n' <;> (rw [q] at z; exact z)⟩
instance (s : Rls α) (pz : α → List PyData) (ok : α → Bool) (n : Nat) [v : PyEs s pz ok n] : PyE (rT s) (pyT pz) ok (n + 1) := ⟨fun ⟨ds, e, h⟩ => by
  subst e; exact ⟨congrArg PyData.tuple (v.h h).1, (v.h h).2⟩⟩
instance (py : α → PyData) (ok : α → Bool) (n : Nat) [w : PyE r py ok n] : PyE (rO r) (pyO py) (okO ok) n := ⟨fun {a d} h => by
  cases a with
  | none => rw [show d = .non from h]; exact ⟨rfl, fun _ => by cases n <;> rfl⟩
  | some a => exact w.h (a := a) h⟩
instance : PyI PyData.int okY := ⟨fun {a b} _ _ => by show (a == b) = decide (a = b); rfl⟩
instance : PyI PyData.bool okY := ⟨fun {a b} _ _ => by show (a == b) = decide (a = b); cases a <;> cases b <;> rfl⟩
instance : PyI PyData.str PyData.strOk := ⟨fun {a b} _ _ => by show (a == b) = decide (a = b); by_cases c : a = b <;> simp [c]⟩
instance : PyI pyN okY := ⟨fun {a b} _ _ => rfl⟩
theorem eqvAll_map {py : α → PyData} {ok : α → Bool} [DecidableEq α] [w : PyI py ok] : ∀ {xs ys : List α}, okL ok xs = true → okL ok ys = true → PyData.eqvAll (xs.map py) (ys.map py) = decide (xs = ys)
  | [], [], _, _ => by simp [PyData.eqvAll]
  | [], _ :: _, _, _ => by simp [PyData.eqvAll]
  | _ :: _, [], _, _ => by simp [PyData.eqvAll]
  | x :: xs, y :: ys, h, h2 => by
    have h : (ok x && xs.all ok) = true := h
    have h2 : (ok y && ys.all ok) = true := h2
    obtain ⟨k1, k2⟩ := Bool.and_eq_true_iff.mp h
    obtain ⟨j1, j2⟩ := Bool.and_eq_true_iff.mp h2
    simp only [List.map_cons, PyData.eqvAll, w.h k1 j1, eqvAll_map (w := w) k2 j2, List.cons.injEq, Bool.decide_and]
instance (py : α → PyData) (ok : α → Bool) [DecidableEq α] [PyI py ok] : PyI (pyL py) (okL ok) := ⟨fun {a b} h h2 => by
  show PyData.eqv (.list (a.map py)) (.list (b.map py)) = _
  simp only [PyData.eqv, eqvAll_map h h2]⟩
instance (py : α → PyData) (ok : α → Bool) [DecidableEq α] [PyI py ok] : PyI (pyQ py) (okL ok) := ⟨fun {a b} h h2 => by
  show PyData.eqv (.tuple (a.map py)) (.tuple (b.map py)) = _
  simp only [PyData.eqv, eqvAll_map h h2]⟩
instance (py : α → PyData) (ok : α → Bool) [DecidableEq α] [w : PyI py ok] : PyIs (py1 py) ok := ⟨fun {a b} h h2 => by
  show PyData.eqvAll [py a] [py b] = _
  simp only [PyData.eqvAll, w.h h h2, Bool.and_true]⟩
instance (py : α → PyData) (ok : α → Bool) (pz : β → List PyData) (ok' : β → Bool) [DecidableEq α] [DecidableEq β] [w : PyI py ok] [v : PyIs pz ok'] : PyIs (pyC py pz) (okC ok ok') := ⟨fun {a b} h h2 => by
  obtain ⟨k1, k2⟩ := Bool.and_eq_true_iff.mp h
  obtain ⟨j1, j2⟩ := Bool.and_eq_true_iff.mp h2
  show PyData.eqvAll (py a.1 :: pz a.2) (py b.1 :: pz b.2) = _
  simp only [PyData.eqvAll, w.h k1 j1, v.h k2 j2, Prod.ext_iff, Bool.decide_and]⟩
instance (pz : α → List PyData) (ok : α → Bool) [DecidableEq α] [v : PyIs pz ok] : PyI (pyT pz) ok := ⟨fun {a b} h h2 => by
  show PyData.eqv (.tuple (pz a)) (.tuple (pz b)) = _
  simp only [PyData.eqv, v.h h h2]⟩
/-- what is never None -/
class PyNN (py : α → PyData) : Prop where
  h : ∀ a, PyData.eqv .none (py a) = false ∧ PyData.eqv (py a) .none = false
instance : PyNN PyData.int := ⟨fun a => ⟨rfl, rfl⟩⟩
instance : PyNN PyData.bool := ⟨fun a => ⟨rfl, rfl⟩⟩
instance : PyNN PyData.str := ⟨fun a => ⟨rfl, rfl⟩⟩
instance (py : α → PyData) : PyNN (pyL py) := ⟨fun a => ⟨rfl, rfl⟩⟩
instance (py : α → PyData) : PyNN (pyQ py) := ⟨fun a => ⟨rfl, rfl⟩⟩
instance (py : α → List PyData) : PyNN (pyT py) := ⟨fun a => ⟨rfl, rfl⟩⟩
instance (py : α → PyData) (ok : α → Bool) [DecidableEq α] [w : PyI py ok] [n : PyNN py] : PyI (pyO py) (okO ok) := ⟨fun {a b} h h2 => by
  cases a with
  | none =>
    cases b with
    | none => rfl
    | some b => show PyData.eqv .none (py b) = _; rw [(n.h b).1]; rfl
  | some a =>
    cases b with
    | none => show PyData.eqv (py a) .none = _; rw [(n.h a).2]; rfl
    | some b => show PyData.eqv (py a) (py b) = _; rw [w.h h h2]; simp⟩
/-- texts are compared where they are texts of signs -/
def eqG (ok : Bool) (b : Bool) : Res Bool := if ok = true then .ok b else .stuck
@[simp] theorem eqG_true {b : Bool} : eqG true b = .ok b := rfl
section
variable {py : α → PyData} {ok : α → Bool} {n n' : Nat} {r r' : Rl α} {b : α} [DecidableEq α] [w1 : PyE r py ok n] [w2 : PyE r' py ok n'] [v : PyI py ok]
include w1 w2 v
theorem eq_run (h1 : r a d) (h2 : r' b d') (hn : n ≤ 12) (hn' : n' ≤ 12) (k1 : ok a = true) (k2 : ok b = true) : eqD d d' = .ok (.bl (decide (a = b))) := by
  obtain ⟨p1, q1⟩ := w1.h h1
  obtain ⟨p2, q2⟩ := w2.h h2
  rw [eqD_plain (plain_mono hn (q1 k1)) (plain_mono hn' (q2 k2))]
  unfold eqb
  rw [p1, p2, v.h k1 k2]
theorem o_eqP (hn : n ≤ 12) (hn' : n' ≤ 12) (h1 : r a d) (h2 : r' b d') : RelE rB (eqG (ok a && ok b) (decide (a = b))) (eqD d d') := by
  unfold eqG
  by_cases c : (ok a && ok b) = true
  · rw [if_pos c]
    obtain ⟨k1, k2⟩ := Bool.and_eq_true_iff.mp c
    rw [eq_run (py := py) (ok := ok) h1 h2 hn hn' k1 k2]; exact rel_ok rfl
  · rw [if_neg c]; trivial
theorem o_neP (hn : n ≤ 12) (hn' : n' ≤ 12) (h1 : r a d) (h2 : r' b d') : RelE rB (eqG (ok a && ok b) (!decide (a = b))) (neD d d') := by
  unfold eqG
  by_cases c : (ok a && ok b) = true
  · rw [if_pos c]
    obtain ⟨k1, k2⟩ := Bool.and_eq_true_iff.mp c
    unfold neD
    rw [eq_run (py := py) (ok := ok) h1 h2 hn hn' k1 k2]; exact rel_ok rfl
  · rw [if_neg c]; trivial
/-- no texts within -/
class OkA (ok : α → Bool) : Prop where
  h : ∀ a, ok a = true
theorem o_eqA [u : OkA ok] (hn : n ≤ 12) (hn' : n' ≤ 12) (h1 : r a d) (h2 : r' b d') : RelE rB (.ok (decide (a = b))) (eqD d d') := by
  rw [eq_run (py := py) (ok := ok) h1 h2 hn hn' (u.h a) (u.h b)]; exact rel_ok rfl
theorem o_neA [u : OkA ok] (hn : n ≤ 12) (hn' : n' ≤ 12) (h1 : r a d) (h2 : r' b d') : RelE rB (.ok (!decide (a = b))) (neD d d') := by
  unfold neD
  rw [eq_run (py := py) (ok := ok) h1 h2 hn hn' (u.h a) (u.h b)]; exact rel_ok rfl
end
instance : OkA (okY : α → Bool) := ⟨fun _ => rfl⟩
instance (ok : α → Bool) [u : OkA ok] : OkA (okL ok) := ⟨fun xs => List.all_eq_true.mpr fun x _ => u.h x⟩
instance (ok : α → Bool) (ok' : β → Bool) [u : OkA ok] [u' : OkA ok'] : OkA (okC ok ok') := ⟨fun p => Bool.and_eq_true_iff.mpr ⟨u.h _, u'.h _⟩⟩
instance (ok : α → Bool) [u : OkA ok] : OkA (okO ok) := ⟨fun o => by cases o with | none => rfl | some a => exact u.h a⟩
end
end DH
/-! Typed readings: x in l, list(range(..)), sorted(set(..)). -/
namespace DH
open PySem L2
section
variable {α β : Type} {P : List Slot} {r r' : Rl α} {e e1 e2 : Rho → Res D} {a : α} {xs : List α} {m : Md} {d d' : D} {i j : Int}
def inL [DecidableEq α] (a : α) (xs : List α) : Bool := decide (a ∈ xs)
section
variable {py : α → PyData} {ok : α → Bool} {n n' : Nat} [DecidableEq α] [w1 : PyE r py ok n] [w2 : PyE r' py ok n'] [v : PyI py ok]
include w1 w2 v
theorem any_al (hn : n' ≤ 11) (h1 : r a d) (k1 : ok a = true) : ∀ {xs : List α} {ds : List D}, Al r' xs ds → okL ok xs = true → anyD ds d = decide (a ∈ xs)
  | _, _, .nil, _ => by simp [anyD]
  | x :: xs, y :: ys, .cons h t, k => by
    have k : (ok x && xs.all ok) = true := k
    obtain ⟨k2, k3⟩ := Bool.and_eq_true_iff.mp k
    have ih := any_al hn h1 k1 t k3
    show (eqb y d || anyD ys d) = _
    rw [ih]
    have e : eqb y d = decide (x = a) := by
      unfold eqb
      rw [(w2.h h).1, (w1.h h1).1, v.h k2 k1]
    rw [e]
    by_cases c : x = a
    · subst c; simp
    · simp [c, show ¬ a = x from fun z => c z.symm]
theorem o_in [u : OkA ok] (hn : n ≤ 12) (hn' : n' ≤ 11) (h1 : r a d) (h2 : rL m r' xs d') : RelE rB (.ok (decide (a ∈ xs))) (inD d d') := by
  obtain ⟨k, ds, _, rfl, h⟩ := h2
  have p1 := plain_mono hn ((w1.h h1).2 (u.h a))
  have p2 : plainAll 11 ds = true := plainAll_mono hn' (h.py.2 (OkA.h (ok := okL ok) xs))
  refine ⟨_, if_pos ⟨p1, p2⟩, ?_⟩
  show D.bl (anyD ds d) = D.bl _
  rw [any_al (r' := r') (py := py) (ok := ok) hn' h1 (u.h a) h (OkA.h (ok := okL ok) xs)]
theorem o_nin [u : OkA ok] (hn : n ≤ 12) (hn' : n' ≤ 11) (h1 : r a d) (h2 : rL m r' xs d') : RelE rB (.ok (!decide (a ∈ xs))) (ninD d d') := by
  obtain ⟨k, ds, _, rfl, h⟩ := h2
  have p1 := plain_mono hn ((w1.h h1).2 (u.h a))
  have p2 : plainAll 11 ds = true := plainAll_mono hn' (h.py.2 (OkA.h (ok := okL ok) xs))
  refine ⟨_, if_pos ⟨p1, p2⟩, ?_⟩
  show D.bl (!anyD ds d) = D.bl _
  rw [any_al (r' := r') (py := py) (ok := ok) hn' h1 (u.h a) h (OkA.h (ok := okL ok) xs)]
/-- where texts stand within -/
theorem o_inP (hn : n ≤ 12) (hn' : n' ≤ 11) (h1 : r a d) (h2 : rL m r' xs d') : RelE rB (eqG (ok a && okL ok xs) (decide (a ∈ xs))) (inD d d') := by
  unfold eqG
  by_cases c : (ok a && okL ok xs) = true
  · rw [if_pos c]
    obtain ⟨k1, k2⟩ := Bool.and_eq_true_iff.mp c
    obtain ⟨k, ds, _, rfl, h⟩ := h2
    refine ⟨_, if_pos ⟨plain_mono hn ((w1.h h1).2 k1), plainAll_mono hn' (h.py.2 k2)⟩, ?_⟩
    show D.bl (anyD ds d) = D.bl _
    rw [any_al (r' := r') (py := py) (ok := ok) hn' h1 k1 h k2]
  · rw [if_neg c]; trivial
theorem o_ninP (hn : n ≤ 12) (hn' : n' ≤ 11) (h1 : r a d) (h2 : rL m r' xs d') : RelE rB (eqG (ok a && okL ok xs) (!decide (a ∈ xs))) (ninD d d') := by
  unfold eqG
  by_cases c : (ok a && okL ok xs) = true
  · rw [if_pos c]
    obtain ⟨k1, k2⟩ := Bool.and_eq_true_iff.mp c
    obtain ⟨k, ds, _, rfl, h⟩ := h2
    refine ⟨_, if_pos ⟨plain_mono hn ((w1.h h1).2 k1), plainAll_mono hn' (h.py.2 k2)⟩, ?_⟩
    show D.bl (!anyD ds d) = D.bl _
    rw [any_al (r' := r') (py := py) (ok := ok) hn' h1 k1 h k2]
  · rw [if_neg c]; trivial
end
def lrgR (a b : Int) : Res (List Int) := if rgOk a b then .ok (rgI a (b - a).toNat) else .stuck
theorem k_lrg1 (h1 : rI j d) : RelE (rL .own rI) (lrgR 0 j) (lrg1D [d]) := by
  rw [show d = .int j from h1]
  show RelE _ _ (if rgOk 0 j then _ else _)
  exact ite_ok Iff.rfl fun _ => ⟨.own, _, rfl, rfl, al_rg _ _⟩
theorem k_lrg2 (h1 : rI i d) (h2 : rI j d') : RelE (rL .own rI) (lrgR i j) (lrg2D [d, d']) := by
  rw [show d = .int i from h1, show d' = .int j from h2]
  show RelE _ _ (if rgOk i j then _ else _)
  exact ite_ok Iff.rfl fun _ => ⟨.own, _, rfl, rfl, al_rg _ _⟩
def setT (ns : List Int) : Res (List Int) := if ns.length < 64 then .ok (setI ns) else .stuck
theorem k_sortSet {ns : List Int} (h1 : rL m rI ns d) : RelE (rL .own rI) (setT ns) (sortSetD [d]) := by
  obtain ⟨k, ds, _, rfl, h⟩ := h1
  show RelE _ _ (setR' (toInts ds))
  rw [toInts_al h]
  exact ite_ok (k := ns.length < 64) Iff.rfl fun _ => ⟨.own, _, rfl, rfl, Al.of_ints _⟩
/-! ### what a comprehension walks -/
class AnyI (m : Md) (r : Rl α) : Prop where
  h : ∀ {k as ds}, m.has k = true → Al r as ds → anyItemsD (.lst k ds) = .ok ds
instance : AnyI .frz r := ⟨fun {k as ds} hk h => by cases k <;> first | rfl | cases hk⟩
instance : AnyI .ro r := ⟨fun {k as ds} hk h => by cases k <;> first | rfl | cases hk⟩
instance [IsDup r] : AnyI .own r := ⟨fun {k as ds} hk h => by cases k <;> first | exact if_pos h.dup | cases hk⟩
instance [IsDup r] : AnyI .ret r := ⟨fun {k as ds} hk h => by cases k <;> first | rfl | exact if_pos h.dup | cases hk⟩
theorem src_id {κ : Type} {rk : Rl (List κ)} {rr : Rl κ} {T : Res (List κ)} {e : Rho → Res D} {k : D → Res (List D)} (h : EvT P rk T e) (w : ∀ a d, rk a d → ∃ ds, k d = .ok ds ∧ Al rr a ds) : SrcT P rr T (fun ρ => (e ρ).bind k) := by
  have z := src_of (U := fun x => x) h w
  cases T <;> exact z
theorem t_anL {T : Res (List α)} [w : AnyI m r] (h : EvT P (rL m r) T e) : SrcT P r T (iAny e) := src_id h fun a d ⟨k, ds, hk, q, z⟩ => ⟨ds, by rw [q]; exact w.h hk z, z⟩
theorem t_anQ {T : Res (List α)} [IsDup r] (h : EvT P (rQ r) T e) : SrcT P r T (iAny e) := src_id h fun a d ⟨ds, q, z⟩ => ⟨ds, by rw [q]; exact if_pos z.dup, z⟩
/-! ### one of two -/
variable {s s' : Rl β} {b : β} {T : Res α} {T2 : Res β}
def rU (r : Rl α) (s : Rl β) : Rl (α ⊕ β) := fun x d => match x with
  | .inl a => r a d
  | .inr b => s b d
instance [u : IsDup r] [v : IsDup s] : IsDup (rU r s) := ⟨fun {x d} h => by cases x with | inl a => exact u.h (a := a) h | inr b => exact v.h (a := b) h⟩
instance [u : IsRet r] [v : IsRet s] : IsRet (rU r s) := ⟨fun {x d} h => by cases x with | inl a => exact u.h (a := a) h | inr b => exact v.h (a := b) h⟩
instance [u : IsLen r] [v : IsLen s] : IsLen (rU r s) := ⟨fun {x d} h => by cases x with | inl a => exact u.h (a := a) h | inr b => exact v.h (a := b) h⟩
instance [u : NotNon r] [v : NotNon s] : NotNon (rU r s) := ⟨fun {x d} h => by cases x with | inl a => exact u.h (a := a) h | inr b => exact v.h (a := b) h⟩
instance [u : Lnd r r'] [v : Lnd s s'] : Lnd (rU r s) (rU r' s') := ⟨fun {x d} h => by cases x with | inl a => exact u.h (a := a) h | inr b => exact v.h (a := b) h⟩
instance [u : Frz r r'] [v : Frz s s'] : Frz (rU r s) (rU r' s') := ⟨fun {x d} h => by cases x with | inl a => exact u.h (a := a) h | inr b => exact v.h (a := b) h⟩
instance [u : Wk r r'] [v : Wk s s'] : Wk (rU r s) (rU r' s') := ⟨fun {x d} h => by cases x with | inl a => exact u.h (a := a) h | inr b => exact v.h (a := b) h⟩
theorem t_inl (h : EvT P r (.ok a) e) : EvT P (rU r s) (.ok (.inl a)) e := h
theorem t_inr (h : EvT P s (.ok b) e) : EvT P (rU r s) (.ok (.inr b)) e := h
theorem t_inlr (h : EvT P r T e) : EvT P (rU r s) (T.bind fun a => .ok (.inl a)) e := fun ρ E => by
  have h := h ρ E
  cases T <;> exact h
theorem t_inrr (h : EvT P s T2 e) : EvT P (rU r s) (T2.bind fun a => .ok (.inr a)) e := fun ρ E => by
  have h := h ρ E
  cases T2 <;> exact h
def outl : α ⊕ β → Res α
  | .inl a => .ok a
  | .inr _ => .stuck
def outr : α ⊕ β → Res β
  | .inr a => .ok a
  | .inl _ => .stuck
@[simp] theorem outl_inl : outl (.inl a : α ⊕ β) = .ok a := rfl
@[simp] theorem outr_inr : outr (.inr b : α ⊕ β) = .ok b := rfl
theorem t_outl {T : Res (α ⊕ β)} (h : EvT P (rU r s) T e) : EvT P r (T.bind outl) e := fun ρ E => by
  have h := h ρ E
  cases T with
  | ok x => cases x with | inl a => exact h | inr b => trivial
  | err c fs => exact h
  | stuck => trivial
theorem t_outr {T : Res (α ⊕ β)} (h : EvT P (rU r s) T e) : EvT P s (T.bind outr) e := fun ρ E => by
  have h := h ρ E
  cases T with
  | ok x => cases x with | inl a => trivial | inr b => exact h
  | err c fs => exact h
  | stuck => trivial
theorem t_outlp {x : α ⊕ β} (h : EvT P (rU r s) (.ok x) e) : EvT P r (outl x) e := t_outl h
theorem t_outrp {x : α ⊕ β} (h : EvT P (rU r s) (.ok x) e) : EvT P s (outr x) e := t_outr h
/-- by the kind -/
def isU (p : α → Bool) (q : β → Bool) : α ⊕ β → Bool
  | .inl a => p a
  | .inr b => q b
@[simp] theorem isU_inl {p : α → Bool} {q : β → Bool} : isU p q (.inl a) = p a := rfl
@[simp] theorem isU_inr {p : α → Bool} {q : β → Bool} : isU p q (.inr b) = q b := rfl
theorem o_isiU {t : String} {p : α → Bool} {q : β → Bool} {x : α ⊕ β} (h1 : ∀ a {d}, r a d → RelE rB (.ok (p a)) (isiD t d)) (h2 : ∀ b {d}, s b d → RelE rB (.ok (q b)) (isiD t d)) (h : rU r s x d) : RelE rB (.ok (isU p q x)) (isiD t d) := by
  cases x with
  | inl a => exact h1 a h
  | inr b => exact h2 b h
def pyU (py : α → PyData) (pz : β → PyData) : α ⊕ β → PyData
  | .inl a => py a
  | .inr b => pz b
def okU2 (ok : α → Bool) (ok' : β → Bool) : α ⊕ β → Bool
  | .inl a => ok a
  | .inr b => ok' b
instance (py : α → PyData) (ok : α → Bool) (n : Nat) (pz : β → PyData) (ok' : β → Bool) (n' : Nat) [w : PyE r py ok n] [v : PyE s pz ok' n'] : PyE (rU r s) (pyU py pz) (okU2 ok ok') (n + n') := ⟨fun {x d} h => by
  cases x with
  | inl a => obtain ⟨h1, h2⟩ := w.h (a := a) h; exact ⟨h1, fun k => plain_mono (by omega) (h2 k)⟩
  | inr a => obtain ⟨h1, h2⟩ := v.h (a := a) h; exact ⟨h1, fun k => plain_mono (by omega) (h2 k)⟩⟩
/-- never the same -/
class PyX (py : α → PyData) (pz : β → PyData) : Prop where
  h : ∀ a b, PyData.eqv (py a) (pz b) = false ∧ PyData.eqv (pz b) (py a) = false
instance (pz : β → PyData) : PyX PyData.int (pyL pz) := ⟨fun _ _ => ⟨rfl, rfl⟩⟩
instance (pz : β → PyData) : PyX PyData.int (pyQ pz) := ⟨fun _ _ => ⟨rfl, rfl⟩⟩
instance (pz : β → List PyData) : PyX PyData.int (pyT pz) := ⟨fun _ _ => ⟨rfl, rfl⟩⟩
instance : PyX PyData.int PyData.str := ⟨fun _ _ => ⟨rfl, rfl⟩⟩
instance (pz : β → PyData) : PyX PyData.str (pyL pz) := ⟨fun _ _ => ⟨rfl, rfl⟩⟩
instance (pz : β → PyData) : PyX PyData.str (pyQ pz) := ⟨fun _ _ => ⟨rfl, rfl⟩⟩
instance (pz : β → List PyData) : PyX PyData.str (pyT pz) := ⟨fun _ _ => ⟨rfl, rfl⟩⟩
instance (py : α → PyData) (pz : β → List PyData) : PyX (pyL py) (pyT pz) := ⟨fun _ _ => ⟨rfl, rfl⟩⟩
instance (py : α → PyData) (pz : β → PyData) : PyX (pyL py) (pyQ pz) := ⟨fun _ _ => ⟨rfl, rfl⟩⟩
instance (py : α → PyData) (pz : β → PyData) (γ : Type) (pw : γ → PyData) [u : PyX py pz] [v : PyX py pw] : PyX py (pyU pz pw) := ⟨fun a x => by cases x with | inl b => exact u.h a b | inr b => exact v.h a b⟩
instance (py : α → PyData) (ok : α → Bool) (pz : β → PyData) (ok' : β → Bool) [DecidableEq α] [DecidableEq β] [w : PyI py ok] [v : PyI pz ok'] [x : PyX py pz] : PyI (pyU py pz) (okU2 ok ok') := ⟨fun {a b} h h2 => by
  cases a with
  | inl a =>
    cases b with
    | inl b => show PyData.eqv (py a) (py b) = _; rw [w.h h h2]; simp
    | inr b => show PyData.eqv (py a) (pz b) = _; rw [(x.h a b).1]; simp
  | inr a =>
    cases b with
    | inl b => show PyData.eqv (pz a) (py b) = _; rw [(x.h b a).2]; simp
    | inr b => show PyData.eqv (pz a) (pz b) = _; rw [v.h h h2]; simp⟩
instance (py : α → PyData) (pz : β → PyData) [u : PyNN py] [v : PyNN pz] : PyNN (pyU py pz) := ⟨fun x => by cases x with | inl a => exact u.h a | inr b => exact v.h b⟩
instance (ok : α → Bool) (ok' : β → Bool) [u : OkA ok] [v : OkA ok'] : OkA (okU2 ok ok') := ⟨fun x => by cases x with | inl a => exact u.h a | inr b => exact v.h b⟩
end
end DH
/-! Plain lemmas on typed functions: loops, comprehensions, ranges. -/
namespace DH
open PySem L2
section
variable {α β γ σ τ : Type}
@[simp] theorem letR_eq {a : α} {k : α → β} : letR a k = k a := rfl
theorem lineN {n : Nat} (h : n ≤ 16777216) : n ≤ LINE := h
theorem lineL {n : Nat} (h : n < 16777216) : n < LINE := h
theorem lenG_le {ys : List α} (h : ys.length ≤ 16777216) : lenG ys = .ok ys := if_pos (lineN h)
theorem appR_lt {xs : List α} {a : α} (h : xs.length < 16777216) : appR xs a = .ok (xs ++ [a]) := if_pos (lineL h)
theorem catR_le {xs ys : List α} (h : xs.length + ys.length ≤ 16777216) : catR xs ys = .ok (xs ++ ys) := if_pos (lineN h)
/-! loops without an early end -/
theorem forN_inv {B : α → σ → Res σ} : ∀ {as : List α} (I : List α → σ → Prop) {s : σ}, I [] s → (∀ done a rest s, as = done ++ a :: rest → I done s → ∃ s', B a s = .ok s' ∧ I (done ++ [a]) s') → ∃ s', forN B as s = .ok s' ∧ I as s' := by
  have key : ∀ (as : List α) (I : List α → σ → Prop) (done : List α) (s : σ), I done s → (∀ done' a rest s, done ++ as = done' ++ a :: rest → I done' s → ∃ s', B a s = .ok s' ∧ I (done' ++ [a]) s') → ∃ s', forN B as s = .ok s' ∧ I (done ++ as) s' := by
    intro as
    induction as with
    | nil => intro I done s h _; exact ⟨s, rfl, by rw [List.append_nil]; exact h⟩
    | cons a as ih =>
      intro I done s h hs
      obtain ⟨s1, e1, h1⟩ := hs done a as s rfl h
      obtain ⟨s2, e2, h2⟩ := ih I (done ++ [a]) s1 h1 fun d a' r s q => hs d a' r s (by rw [← q, List.append_assoc]; rfl)
      exact ⟨s2, by rw [forN_cons, e1]; exact e2, by rw [List.append_assoc] at h2; exact h2⟩
  intro as I s h hs
  obtain ⟨s', e, h'⟩ := key as I [] s h (by simpa using hs)
  exact ⟨s', e, by simpa using h'⟩
theorem forN_all {B : α → σ → Res σ} (I : σ → Prop) {as : List α} {s : σ} (h : I s) (hs : ∀ a ∈ as, ∀ s, I s → ∃ s', B a s = .ok s' ∧ I s') : ∃ s', forN B as s = .ok s' ∧ I s' :=
  forN_inv (fun _ => I) h fun d a r s e hi => hs a (by rw [e]; simp) s hi
theorem forN_fold {B : α → σ → Res σ} {f : σ → α → σ} : ∀ {as : List α} {s : σ}, (∀ a ∈ as, ∀ s, B a s = .ok (f s a)) → forN B as s = .ok (as.foldl f s)
  | [], s, _ => rfl
  | a :: as, s, h => by
    rw [forN_cons, h a List.mem_cons_self s, rb_ok]
    exact forN_fold fun b m => h b (List.mem_cons_of_mem _ m)
/-- .. over a range from 0 -/
theorem rgI_len {lo : Int} {n : Nat} : (rgI lo n).length = n := by unfold rgI; rw [List.length_map, List.length_range]
theorem mem_rgI {lo k : Int} {n : Nat} : k ∈ rgI lo n ↔ lo ≤ k ∧ k < lo + n := by
  unfold rgI
  rw [List.mem_map]
  constructor
  · rintro ⟨i, h, rfl⟩
    have := List.mem_range.mp h
    omega
  · intro ⟨h1, h2⟩
    exact ⟨(k - lo).toNat, List.mem_range.mpr (by omega), by omega⟩
theorem rgI_get {lo : Int} {n i : Nat} (h : i < n) : (rgI lo n)[i]? = some (lo + i) := by
  unfold rgI
  rw [List.getElem?_map, List.getElem?_range h]; rfl
theorem rgI_succ {lo : Int} {n : Nat} : rgI lo (n + 1) = lo :: rgI (lo + 1) n := by
  unfold rgI
  rw [List.range_succ_eq_map, List.map_cons, List.map_map]
  congr 1
  · simp
  · refine List.map_congr_left fun i _ => ?_
    simp only [Function.comp]
    omega
theorem rgI_snoc {lo : Int} {n : Nat} : rgI lo (n + 1) = rgI lo n ++ [lo + n] := by
  unfold rgI
  rw [List.range_succ, List.map_append]; rfl
theorem rgI_zero {lo : Int} : rgI lo 0 = [] := rfl
theorem rgI_split {lo : Int} {n : Nat} {done rest : List Int} {a : Int} (e : rgI lo n = done ++ a :: rest) : a = lo + done.length ∧ done.length < n := by
  have hl := congrArg List.length e
  rw [rgI_len, List.length_append, List.length_cons] at hl
  have hg := congrArg (fun l => l[done.length]?) e
  simp only [List.getElem?_append_right (Nat.le_refl _), Nat.sub_self, List.getElem?_cons_zero] at hg
  rw [rgI_get (by omega)] at hg
  exact ⟨(Option.some.inj hg).symm, by omega⟩
theorem forN_rg {B : Int → σ → Res σ} (I : Nat → σ → Prop) {n : Nat} {lo : Int} {s : σ} (h : I 0 s) (hs : ∀ k s, k < n → I k s → ∃ s', B (lo + k) s = .ok s' ∧ I (k + 1) s') : ∃ s', forN B (rgI lo n) s = .ok s' ∧ I n s' := by
  obtain ⟨s', e, h'⟩ := forN_inv (B := B) (as := rgI lo n) (fun d s => I d.length s) h fun d a r s e hi => by
    obtain ⟨rfl, hl⟩ := rgI_split e
    obtain ⟨s', e1, h1⟩ := hs d.length s hl hi
    exact ⟨s', e1, by simpa using h1⟩
  exact ⟨s', e, by rw [rgI_len] at h'; exact h'⟩
theorem forN_rg0 {B : Int → σ → Res σ} (I : Nat → σ → Prop) {n : Nat} {s : σ} (h : I 0 s) (hs : ∀ k : Nat, ∀ s, k < n → I k s → ∃ s', B k s = .ok s' ∧ I (k + 1) s') : ∃ s', forN B (rgI 0 n) s = .ok s' ∧ I n s' :=
  forN_rg I h fun k s hk hi => by
    have e : (0 : Int) + k = k := by omega
    rw [e]; exact hs k s hk hi
/-! loops with returns -/
/-- a loop that never leaves -/
theorem forC_inv {B : α → σ → Res (Ctl β σ)} {as : List α} (I : List α → σ → Prop) {s : σ} (h : I [] s) (hs : ∀ done a rest s, as = done ++ a :: rest → I done s → ∃ s', (B a s = .ok (.next s') ∨ B a s = .ok (.cnt s')) ∧ I (done ++ [a]) s') : ∃ s', forC B as s = .ok (.next s') ∧ I as s' := by
  have key : ∀ (as : List α) (I : List α → σ → Prop) (done : List α) (s : σ), I done s → (∀ done' a rest s, done ++ as = done' ++ a :: rest → I done' s → ∃ s', (B a s = .ok (.next s') ∨ B a s = .ok (.cnt s')) ∧ I (done' ++ [a]) s') → ∃ s', forC B as s = .ok (.next s') ∧ I (done ++ as) s' := by
    intro as
    induction as with
    | nil => intro I done s h _; exact ⟨s, rfl, by rw [List.append_nil]; exact h⟩
    | cons a as ih =>
      intro I done s h hs
      obtain ⟨s1, e1, h1⟩ := hs done a as s rfl h
      obtain ⟨s2, e2, h2⟩ := ih I (done ++ [a]) s1 h1 fun d a' r s q => hs d a' r s (by rw [← q, List.append_assoc]; rfl)
      refine ⟨s2, ?_, by rw [List.append_assoc] at h2; exact h2⟩
      rw [forC_cons]
      rcases e1 with e1 | e1 <;> rw [e1] <;> exact e2
  obtain ⟨s', e, h'⟩ := key as I [] s h (by simpa using hs)
  exact ⟨s', e, by simpa using h'⟩
theorem forC_all {B : α → σ → Res (Ctl β σ)} {as : List α} (I : σ → Prop) {s : σ} (h : I s) (hs : ∀ a ∈ as, ∀ s, I s → ∃ s', (B a s = .ok (.next s') ∨ B a s = .ok (.cnt s')) ∧ I s') : ∃ s', forC B as s = .ok (.next s') ∧ I s' :=
  forC_inv (fun _ => I) h fun d a r s e hi => hs a (by rw [e]; simp) s hi
/-- .. without a state -/
theorem forC_unit {B : α → Unit → Res (Ctl β Unit)} {as : List α} (hs : ∀ a ∈ as, B a () = .ok (.next ())) : forC B as () = .ok (.next ()) := by
  obtain ⟨s', e, _⟩ := forC_all (B := B) (as := as) (fun _ => True) (s := ()) trivial fun a m s _ => ⟨(), .inl (hs a m), trivial⟩
  exact e
/-- the first one that fits -/
theorem forC_find {B : α → Unit → Res (Ctl β Unit)} {p : α → Bool} {g : α → β} : ∀ {as : List α}, (∀ a ∈ as, p a = false → B a () = .ok (.next ())) → (∀ a ∈ as, p a = true → B a () = .ok (.ret (g a))) →
    forC B as () = .ok (match as.find? p with | some a => .ret (g a) | none => .next ())
  | [], _, _ => rfl
  | a :: as, h, k => by
    rw [forC_cons]
    cases z : p a with
    | true => rw [k a List.mem_cons_self z, List.find?_cons_of_pos z]; rfl
    | false =>
      rw [h a List.mem_cons_self z, List.find?_cons_of_neg (by rw [z]; exact Bool.false_ne_true)]
      exact forC_find (fun b m => h b (List.mem_cons_of_mem _ m)) fun b m q => k b (List.mem_cons_of_mem _ m) q
/-! comprehensions -/
theorem mapR_ok {f : α → Res β} {g : α → β} : ∀ {as : List α}, (∀ a ∈ as, f a = .ok (g a)) → mapR f as = .ok (as.map g)
  | [], _ => rfl
  | a :: as, h => by
    unfold mapR
    rw [h a List.mem_cons_self, mapR_ok fun b m => h b (List.mem_cons_of_mem _ m)]; rfl
theorem mapR_ex {f : α → Res β} (p : α → β → Prop) : ∀ {as : List α}, (∀ a ∈ as, ∃ b, f a = .ok b ∧ p a b) → ∃ bs, mapR f as = .ok bs ∧ bs.length = as.length ∧ ∀ (i : Nat) (a : α) (b : β), as[i]? = some a → bs[i]? = some b → p a b
  | [], _ => ⟨[], rfl, rfl, fun i a b h => by simp at h⟩
  | a :: as, h => by
    obtain ⟨b, e, hb⟩ := h a List.mem_cons_self
    obtain ⟨bs, e2, hl, h2⟩ := mapR_ex p (as := as) fun b m => h b (List.mem_cons_of_mem _ m)
    refine ⟨b :: bs, ?_, by simp [hl], fun i a' b' q1 q2 => ?_⟩
    · unfold mapR; rw [e, e2]; rfl
    · cases i with
      | zero => simp at q1 q2; subst q1; subst q2; exact hb
      | succ i => exact h2 i a' b' (by simpa using q1) (by simpa using q2)
theorem compR_ok {p : α → Res Bool} {f : α → Res β} {q : α → Bool} {g : α → β} : ∀ {as : List α}, (∀ a ∈ as, p a = .ok (q a)) → (∀ a ∈ as, q a = true → f a = .ok (g a)) → compR p f as = .ok ((as.filter q).map g)
  | [], _, _ => rfl
  | a :: as, h, k => by
    have ih := compR_ok (fun b m => h b (List.mem_cons_of_mem _ m)) fun b m => k b (List.mem_cons_of_mem _ m)
    unfold compR
    rw [h a List.mem_cons_self]
    show (if q a = true then _ else _ : Res (List β)) = _
    cases z : q a with
    | true => rw [if_pos rfl, k a List.mem_cons_self z, List.filter_cons_of_pos z, ih]; rfl
    | false => rw [if_neg (by simp), List.filter_cons_of_neg (by rw [z]; exact Bool.false_ne_true), ih]
/-! least, greatest, sorted -/
theorem mem_sortI {k : Int} {xs : List Int} : k ∈ sortI xs ↔ k ∈ xs := (sortI_perm xs).mem_iff
theorem len_sortI {xs : List Int} : (sortI xs).length = xs.length := (sortI_perm xs).length_eq
/-- an ascending list without doubles -/
theorem sortI_asc {xs : List Int} (nd : xs.Nodup) : (sortI xs).Pairwise (· < ·) := by
  have h1 := sortI_sorted xs
  have h2 : (sortI xs).Nodup := (sortI_perm xs).nodup_iff.mpr nd
  have h3 : (sortI xs).Pairwise fun a b => a ≤ b ∧ a ≠ b := h1.and h2
  exact h3.imp fun ⟨a, b⟩ => by omega
theorem sortI_setI {xs ys : List Int} (nd : xs.Nodup) (h : ∀ k, k ∈ xs ↔ k ∈ ys) : sortI xs = setI ys := asc_uniq (sortI_asc nd) (setI_asc ys) fun k => by rw [mem_sortI, mem_setI, h]
theorem setT_ok {ns : List Int} (h : ns.length < 64) : setT ns = .ok (setI ns) := if_pos h
theorem insS_len {n : Int} : ∀ {xs : List Int}, (insS n xs).length ≤ xs.length + 1
  | [] => by simp [insS]
  | m :: r => by
    unfold insS
    split
    · simp
    · split
      · simp
      · have := insS_len (n := n) (xs := r); simp; omega
theorem setI_len : ∀ {xs : List Int}, (setI xs).length ≤ xs.length
  | [] => Nat.le_refl _
  | n :: r => by
    have h1 := insS_len (n := n) (xs := setI r)
    have h2 := setI_len (xs := r)
    show (insS n (setI r)).length ≤ r.length + 1
    omega
end
end DH
namespace DH
/-- a computation that is handed on -/
theorem rb_bind_ok {α : Type} (r : Res α) : (r.bind fun a => .ok a) = r := by cases r <;> rfl
end DH
namespace DH
/-- it ends well, with a value that has P -/
def Yld {τ : Type} (R : Res τ) (P : τ → Prop) : Prop := ∃ r, R = .ok r ∧ P r
section
variable {α β σ τ : Type} {P : α → Prop} {Q : τ → Prop}
theorem y_ok {a : α} (h : P a) : Yld (.ok a) P := ⟨a, rfl, h⟩
theorem y_eq {R : Res α} {a : α} (e : R = .ok a) (h : P a) : Yld R P := ⟨a, e, h⟩
theorem y_bind {R : Res α} {k : α → Res τ} (h : Yld R P) (n : ∀ a, P a → Yld (k a) Q) : Yld (R.bind k) Q := by
  obtain ⟨a, e, p⟩ := h
  rw [e]; exact n a p
/-- one step whose value is known -/
theorem y_step {R : Res α} {k : α → Res τ} {a : α} (e : R = .ok a) (n : Yld (k a) Q) : Yld (R.bind k) Q := by rw [e]; exact n
theorem y_mono {R : Res α} {P' : α → Prop} (h : Yld R P) (k : ∀ a, P a → P' a) : Yld R P' := by obtain ⟨a, e, p⟩ := h; exact ⟨a, e, k a p⟩
theorem y_get {R : Res α} {a : α} (h : Yld R (fun x => x = a)) : R = .ok a := by obtain ⟨x, e, p⟩ := h; rw [e, p]
theorem y_of {R : Res α} {a : α} (e : R = .ok a) : Yld R (fun x => x = a) := ⟨a, e, rfl⟩
theorem y_if {c : Prop} [Decidable c] {A B : Res τ} (h1 : c → Yld A Q) (h2 : ¬ c → Yld B Q) : Yld (if c then A else B) Q := by
  by_cases z : c
  · rw [if_pos z]; exact h1 z
  · rw [if_neg z]; exact h2 z
theorem y_ifb {c : Prop} [Decidable c] {A B : Res τ} (h1 : c → Yld A Q) (h2 : ¬ c → Yld B Q) : Yld (if decide c = true then A else B) Q := by
  by_cases z : c
  · rw [if_pos (decide_eq_true z)]; exact h1 z
  · rw [if_neg (by simp [z])]; exact h2 z
theorem y_forN {B : α → σ → Res σ} {as : List α} (I : List α → σ → Prop) {s : σ} (h : I [] s) (hs : ∀ done a rest s, as = done ++ a :: rest → I done s → Yld (B a s) (I (done ++ [a]))) : Yld (forN B as s) (I as) := forN_inv I h hs
theorem y_forA {B : α → σ → Res σ} {as : List α} (I : σ → Prop) {s : σ} (h : I s) (hs : ∀ a ∈ as, ∀ s, I s → Yld (B a s) I) : Yld (forN B as s) I := forN_all I h hs
theorem y_forR {B : Int → σ → Res σ} (I : Nat → σ → Prop) {n : Nat} {s : σ} (h : I 0 s) (hs : ∀ (k : Nat) s, k < n → I k s → Yld (B (k : Int) s) (I (k + 1))) : Yld (forN B (rgI 0 n) s) (I n) := forN_rg0 I h hs
theorem y_forR' {B : Int → σ → Res σ} (I : Nat → σ → Prop) {n : Nat} {lo : Int} {s : σ} (h : I 0 s) (hs : ∀ (k : Nat) s, k < n → I k s → Yld (B (lo + k) s) (I (k + 1))) : Yld (forN B (rgI lo n) s) (I n) := forN_rg I h hs
theorem y_map {f : α → Res β} (p : α → β → Prop) {as : List α} (h : ∀ a ∈ as, Yld (f a) (p a)) : Yld (mapR f as) (fun bs => bs.length = as.length ∧ ∀ (i : Nat) (a : α) (b : β), as[i]? = some a → bs[i]? = some b → p a b) := mapR_ex p h
theorem y_mapA {f : α → Res β} (p : β → Prop) {as : List α} (h : ∀ a ∈ as, Yld (f a) p) : Yld (mapR f as) (fun bs => bs.length = as.length ∧ ∀ b ∈ bs, p b) := by
  refine y_mono (y_map (fun _ b => p b) h) fun bs ⟨h1, h2⟩ => ⟨h1, fun b m => ?_⟩
  obtain ⟨i, hi, e⟩ := List.getElem_of_mem m
  exact h2 i (as[i]'(by omega)) b (List.getElem?_eq_getElem (by omega)) (by rw [← e]; exact List.getElem?_eq_getElem hi)
theorem y_len {ys : List α} {P : List α → Prop} (hl : ys.length ≤ 16777216) (h : P ys) : Yld (lenG ys) P := ⟨ys, lenG_le hl, h⟩
theorem y_noErr {R : Res α} (h : Yld R P) : Yld (noErr R) P := by obtain ⟨a, e, p⟩ := h; rw [e]; exact ⟨a, rfl, p⟩
/-- a loop with returns: it never leaves -/
theorem y_forC {B : α → σ → Res (Ctl β σ)} {as : List α} (I : List α → σ → Prop) {s : σ} (h : I [] s) (hs : ∀ done a rest s, as = done ++ a :: rest → I done s → ∃ s', (B a s = .ok (.next s') ∨ B a s = .ok (.cnt s')) ∧ I (done ++ [a]) s') : Yld (forC B as s) (fun c => ∃ s', c = .next s' ∧ I as s') := by
  obtain ⟨s', e, h'⟩ := forC_inv (B := B) I h hs
  exact ⟨_, e, s', rfl, h'⟩
end
end DH
/-! Lists that are written as a row of known places; a list within a tuple or a list that is appended to -/
namespace DH
open PySem L2
section
variable {α β γ τ : Type}
/-- a list of so many places, each of its own kind -/
def rF (m : Md) (s : Rls α) : Rl α := fun a d => ∃ k ds, m.has k = true ∧ d = .lst k ds ∧ s a ds
instance (s : Rls α) : IsDup (rF .frz s) := ⟨fun ⟨k, ds, hk, e, _⟩ => by subst e; cases k <;> first | rfl | cases hk⟩
instance (s : Rls α) : IsDup (rF .ro s) := ⟨fun ⟨k, ds, hk, e, _⟩ => by subst e; cases k <;> first | rfl | cases hk⟩
instance (s : Rls α) : IsRet (rF .frz s) := ⟨fun ⟨k, ds, hk, e, _⟩ => by subst e; cases k <;> first | rfl | cases hk⟩
instance (s : Rls α) : IsRet (rF .own s) := ⟨fun ⟨k, ds, hk, e, _⟩ => by subst e; cases k <;> first | rfl | cases hk⟩
instance (s : Rls α) : IsLen (rF .own s) := ⟨fun ⟨k, ds, hk, e, _⟩ => by subst e; cases k <;> first | rfl | cases hk⟩
instance (s : Rls α) : IsLen (rF .frz s) := ⟨fun ⟨k, ds, hk, e, _⟩ => by subst e; cases k <;> first | rfl | cases hk⟩
instance (s : Rls α) : IsLen (rF .ro s) := ⟨fun ⟨k, ds, hk, e, _⟩ => by subst e; cases k <;> first | rfl | cases hk⟩
instance (s : Rls α) [IsLens s] : IsLen (rF .tmp s) := ⟨fun ⟨k, ds, hk, e, h⟩ => by subst e; exact len_lst (IsLens.h h)⟩
instance (m m' : Md) (r s : Rls α) [MdLe m m'] [Wks r s] : Wk (rF m r) (rF m' s) := ⟨fun ⟨k, ds, hk, e, h⟩ => ⟨k, ds, MdLe.h hk, e, Wks.h h⟩⟩
instance (r s : Rls α) [Lnds r s] : Lnd (rF .own r) (rF .ro s) := ⟨fun ⟨k, ds, hk, e, h⟩ => by
  subst e
  cases k <;> first | exact ⟨.bor, _, rfl, rfl, Lnds.h h⟩ | cases hk⟩
instance (r s : Rls α) [Lnds r s] : Lnd (rF .tmp r) (rF .ro s) := ⟨fun ⟨k, ds, hk, e, h⟩ => by
  subst e
  cases k <;> first | exact ⟨.bor, _, rfl, rfl, Lnds.h h⟩ | cases hk⟩
instance (r s : Rls α) [Wks r s] : Lnd (rF .frz r) (rF .ro s) := ⟨fun ⟨k, ds, hk, e, h⟩ => by
  subst e
  cases k <;> first | exact ⟨.frz, _, rfl, rfl, Wks.h h⟩ | cases hk⟩
instance (r s : Rls α) [Wks r s] : Lnd (rF .ro r) (rF .ro s) := ⟨fun ⟨k, ds, hk, e, h⟩ => by
  subst e
  cases k <;> first | exact ⟨.frz, _, rfl, rfl, Wks.h h⟩ | exact ⟨.bor, _, rfl, rfl, Wks.h h⟩ | cases hk⟩
instance (r s : Rls α) [Frzs r s] : Frz (rF .own r) (rF .frz s) := ⟨fun ⟨k, ds, hk, e, h⟩ => by
  subst e
  cases k <;> first | exact ⟨.frz, _, rfl, rfl, Frzs.h h⟩ | cases hk⟩
instance (r s : Rls α) [Wks r s] : Frz (rF .frz r) (rF .frz s) := ⟨fun ⟨k, ds, hk, e, h⟩ => by
  subst e
  cases k <;> first | exact ⟨.frz, _, rfl, rfl, Wks.h h⟩ | cases hk⟩
instance (r s : Rl α) [Wk r s] : Lnd (rL .frz r) (rL .frz s) := ⟨fun ⟨k, ds, hk, e, h⟩ => by
  subst e
  cases k <;> first | exact ⟨.frz, _, rfl, rfl, h.imp fun _ _ => Wk.h⟩ | cases hk⟩
instance (m : Md) (s : Rls α) : NotNon (rF m s) := ⟨fun ⟨k, ds, hk, e, h⟩ => by subst e; rfl⟩
def pyF (py : α → List PyData) (a : α) : PyData := .list (py a)
instance (m : Md) (s : Rls α) (pz : α → List PyData) (ok : α → Bool) (n : Nat) [v : PyEs s pz ok n] : PyE (rF m s) (pyF pz) ok (n + 1) := ⟨fun ⟨k, ds, _, e, h⟩ => by
  subst e; exact ⟨congrArg PyData.list (v.h h).1, (v.h h).2⟩⟩
instance (pz : α → List PyData) (ok : α → Bool) [DecidableEq α] [v : PyIs pz ok] : PyI (pyF pz) ok := ⟨fun {a b} h h2 => by
  show PyData.eqv (.list (pz a)) (.list (pz b)) = _
  simp only [PyData.eqv, v.h h h2]⟩
instance (py : α → List PyData) : PyNN (pyF py) := ⟨fun a => ⟨rfl, rfl⟩⟩
theorem k_fix {s : Rls α} {a : α} [IsRets s] {ds : List D} (h : s a ds) (hl : ds.length ≤ 1000 := by exact Nat.le_of_ble_eq_true rfl) : RelE (rF .own s) (.ok a) (lstK ds) := ⟨_, if_pos ⟨line1000 hl, IsRets.h h⟩, _, _, rfl, rfl, h⟩
theorem k_fixT {s : Rls α} {a : α} {ds : List D} (h : s a ds) (hl : ds.length ≤ 1000 := by exact Nat.le_of_ble_eq_true rfl) : RelE (rF .tmp s) (.ok a) (tmpK ds) := ⟨_, if_pos (line1000 hl), _, _, rfl, rfl, h⟩
/-- the place k of a row -/
structure NthT (s : Rls τ) (k : Nat) (r : Rl α) (get : τ → α) (put : τ → α → τ) : Prop where
  get : ∀ {t ds}, s t ds → ∃ d, ds[k]? = some d ∧ r (get t) d
  put : ∀ {t ds a d}, s t ds → r a d → s (put t a) (ds.set k d)
theorem nth1 {r : Rl α} : NthT (rs1 r) 0 r (fun t => t) (fun _ a => a) := ⟨fun ⟨d, e, h⟩ => ⟨d, by rw [e]; rfl, h⟩, fun ⟨d, e, h⟩ h2 => by subst e; exact ⟨_, rfl, h2⟩⟩
theorem nth0 {r : Rl α} {s : Rls β} : NthT (rsC r s) 0 r (fun t => t.1) (fun t a => (a, t.2)) := ⟨fun ⟨d, es, e, h, _⟩ => ⟨d, by rw [e]; rfl, h⟩, fun ⟨d, es, e, _, h⟩ h2 => by subst e; exact ⟨_, _, rfl, h2, h⟩⟩
theorem nthS {q : Rl γ} {r : Rl α} {s : Rls β} {k : Nat} {get : β → α} {put : β → α → β} (h : NthT s k r get put) : NthT (rsC q s) (k + 1) r (fun t => get t.2) (fun t a => (t.1, put t.2 a)) :=
  ⟨fun ⟨d, es, e, _, h2⟩ => by subst e; exact h.get h2, fun ⟨d, es, e, h1, h2⟩ h3 => by subst e; exact ⟨_, _, rfl, h1, h.put h2 h3⟩⟩
theorem o_ixF {s : Rls τ} {k : Nat} {r : Rl α} {get : τ → α} {put : τ → α → τ} {m : Md} {t : τ} {d d' : D} (n : NthT s k r get put) (h : rF m s t d) (h2 : rI (k : Int) d') : RelE r (.ok (get t)) (ixD d d') := by
  obtain ⟨lk, ds, _, rfl, h⟩ := h
  obtain ⟨y, e, h3⟩ := n.get h
  rw [show d' = .int (k : Int) from h2]
  exact ⟨y, by rw [ixD_lst, ixA_nat e], h3⟩
/-- a pair, by a number -/
theorem o_ixT2 {r : Rl α} {t : α × α} {i : Int} {d d' : D} (h : rT (rsC r (rs1 r)) t d) (h2 : rI i d') : RelE r (ixR [t.1, t.2] i) (ixD d d') := by
  obtain ⟨ds, rfl, _, _, rfl, h, _, rfl, h'⟩ := h
  rw [show d' = .int i from h2]
  exact (Al.cons h (.cons h' .nil)).ix
/-- the first places of a row -/
structure TakeT (s : Rls τ) (k : Nat) (s' : Rls α) (get : τ → α) : Prop where
  h : ∀ {t ds}, s t ds → k < ds.length ∧ s' (get t) (ds.take k)
theorem tk1 {q : Rl γ} {s : Rls β} (n : ∀ {t ds}, s t ds → 0 < ds.length) : TakeT (rsC q s) 1 (rs1 q) (fun t => t.1) := ⟨fun ⟨d, es, e, h, h2⟩ => by subst e; exact ⟨by have := n h2; simp; omega, ⟨d, by simp, h⟩⟩⟩
theorem tkS {q : Rl γ} {s : Rls β} {s' : Rls α} {k : Nat} {get : β → α} (n : TakeT s k s' get) : TakeT (rsC q s) (k + 1) (rsC q s') (fun t => (t.1, get t.2)) := ⟨fun ⟨d, es, e, h, h2⟩ => by subst e; obtain ⟨l, z⟩ := n.h h2; exact ⟨by simp; omega, ⟨d, es.take k, by simp, h, z⟩⟩⟩
theorem len_s1 {q : Rl γ} {t : γ} {ds : List D} (h : rs1 q t ds) : 0 < ds.length := by obtain ⟨d, rfl, _⟩ := h; simp
theorem len_sC {q : Rl γ} {s : Rls β} {t : γ × β} {ds : List D} (h : rsC q s t ds) : 0 < ds.length := by obtain ⟨d, es, rfl, _⟩ := h; simp
theorem o_cutT {s : Rls τ} {k : Nat} {s' : Rls α} {get : τ → α} {t : τ} {d : D} [w : IsDups s'] (n : TakeT s k s' get) (h : rT s t d) : RelE (rT s') (.ok (get t)) (cutD none (some (k : Int)) d) := by
  obtain ⟨ds, rfl, h⟩ := h
  obtain ⟨l, z⟩ := n.h h
  have e : cutA ds none (some (k : Int)) = ds.take k := cutA_to (by omega)
  have g : HT.sIx ds.length ds.length (some (k : Int)) = k := by rw [HT.sIx_nat]; omega
  show RelE _ _ (if D.dupAll (cutA ds none (some (k : Int))) = true ∧ ¬ (HT.sIx ds.length 0 none = 0 ∧ HT.sIx ds.length ds.length (some (k : Int)) = ds.length) then .ok (.tup (cutA ds none (some (k : Int)))) else .stuck)
  rw [e, if_pos ⟨IsDups.h z, fun c => by rw [g] at c; omega⟩]
  exact ⟨_, rfl, _, rfl, z⟩
/-- a field of what is being made -/
theorem t_fldO {c f : Str} {F : List (Str × (D → Prop))} {rb : Rl β} {b : β} {Pr : List Slot} (hf : F.lookup f = some (rb b)) : EvT (SO c F :: Pr) rb (.ok b) (eU1 (fldD f) (eVar 0)) := fun ρ E => by
  obtain ⟨o, q, fl, rfl, hp⟩ := (AtS.z (p := SO c F) (ps := Pr)).get E
  obtain ⟨d, q2, z⟩ := hp.lookup hf
  refine ⟨d, ?_, z⟩
  show ((match ρ[0]? with | some (some d) => Res.ok d | _ => .stuck).bind fun x => fldD f x) = .ok d
  rw [q]
  show fldF f fl = _
  unfold fldF
  rw [q2]
/-! ### the place within -/
variable {i : Nat} {P : List Slot} {R : Rl τ} {x : τ} {r : Rl α} {s : Rls α} {pe : Rho → Prop} {Φ : Ph β} {g : Rho → Out}
def LnT (i : Nat) (P : List Slot) (R : Rl τ) (r : Rl α) (X : Res α) (put : α → τ) (l : Rho → Res LD) : Prop := ∀ ρ, Env P ρ → match X with
  | .ok x => ∃ d putD, l ρ = .ok (d, putD) ∧ r x d ∧ ∀ x' d', r x' d' → ∃ d2, R (put x') d2 ∧ putD d' = ρ.set i (some d2)
  | .err _ _ => False
  | .stuck => True
theorem l_var (h : AtS i P (Sl R x)) : LnT i P R R (.ok x) (fun y => y) (lVar i) := fun ρ E => by
  obtain ⟨o, q, d, rfl, hd⟩ := h.get E
  exact ⟨d, fun d' => ρ.set i (some d'), by unfold lVar; rw [q], hd, fun x' d' h' => ⟨d', h', rfl⟩⟩
theorem ixN_lt {n k : Nat} (h : k < n) : ixN n (k : Int) = some k := ixN_nat h
theorem l_nth {t : α} {put : α → τ} {k : Nat} {q : Rl γ} {get : α → γ} {putN : α → γ → α} {l : Rho → Res LD} {fb : Rho → Res D} (h : LnT i P R (rT s) (.ok t) put l) (n : NthT s k q get putN) (hb : EvT P rI (.ok (k : Int)) fb) : LnT i P R q (.ok (get t)) (fun b => put (putN t b)) (lIx l fb) := fun ρ E => by
  obtain ⟨d, putD, e, ⟨ds, rfl, hd⟩, kk⟩ := h ρ E
  obtain ⟨j, e2, h2⟩ := hb ρ E
  obtain ⟨y, ey, hy⟩ := n.get hd
  have hk : k < ds.length := (List.getElem?_eq_some_iff.mp ey).1
  refine ⟨y, fun e' => putD (.tup (ds.set k e')), ?_, hy, fun x' d' h' => kk _ _ ⟨_, rfl, n.put hd h'⟩⟩
  unfold lIx
  rw [e, e2, show j = .int (k : Int) from h2]
  show lAt (.tup ds, putD) (.int (k : Int)) = _
  simp only [lAt, ixN_nat hk, ey]
theorem l_fix {t : α} {put : α → τ} {k : Nat} {q : Rl γ} {get : α → γ} {putN : α → γ → α} {l : Rho → Res LD} {fb : Rho → Res D} (h : LnT i P R (rF .own s) (.ok t) put l) (n : NthT s k q get putN) (hb : EvT P rI (.ok (k : Int)) fb) : LnT i P R q (.ok (get t)) (fun b => put (putN t b)) (lIx l fb) := fun ρ E => by
  obtain ⟨d, putD, e, ⟨lk, ds, hk, rfl, hd⟩, kk⟩ := h ρ E
  cases lk <;> first | cases hk; done | skip
  obtain ⟨j, e2, h2⟩ := hb ρ E
  obtain ⟨y, ey, hy⟩ := n.get hd
  have hk : k < ds.length := (List.getElem?_eq_some_iff.mp ey).1
  refine ⟨y, fun e' => putD (.lst .own (ds.set k e')), ?_, hy, fun x' d' h' => kk _ _ ⟨.own, _, rfl, rfl, n.put hd h'⟩⟩
  unfold lIx
  rw [e, e2, show j = .int (k : Int) from h2]
  show lAt (.lst .own ds, putD) (.int (k : Int)) = _
  simp only [lAt, ixN_nat hk, ey]
theorem l_outl {γ δ : Type} {q : Rl γ} {q' : Rl δ} {X : Res (γ ⊕ δ)} {put : γ ⊕ δ → τ} {l : Rho → Res LD} (h : LnT i P R (rU q q') X put l) : LnT i P R q (X.bind outl) (fun a => put (Sum.inl a)) l := fun ρ E => by
  have h := h ρ E
  cases X with
  | ok x => cases x with
    | inl a => obtain ⟨d, putD, e, hd, kk⟩ := h; exact ⟨d, putD, e, hd, fun x' d' h' => kk (.inl x') d' h'⟩
    | inr b => trivial
  | err c fs => exact h
  | stuck => trivial
theorem l_outr {γ δ : Type} {q : Rl γ} {q' : Rl δ} {X : Res (γ ⊕ δ)} {put : γ ⊕ δ → τ} {l : Rho → Res LD} (h : LnT i P R (rU q q') X put l) : LnT i P R q' (X.bind outr) (fun a => put (Sum.inr a)) l := fun ρ E => by
  have h := h ρ E
  cases X with
  | ok x => cases x with
    | inl a => trivial
    | inr b => obtain ⟨d, putD, e, hd, kk⟩ := h; exact ⟨d, putD, e, hd, fun x' d' h' => kk (.inr x') d' h'⟩
  | err c fs => exact h
  | stuck => trivial
theorem b_appL {X : Res (List α)} {T : Res α} {put : List α → τ} {l : Rho → Res LD} {e : Rho → Res D} {Pz : τ → List Slot} {V : τ → Res β} [w : IsRet r] (hl : LnT i P R (rL .own r) X put l) (hp : ∀ ρ, Env P ρ → pe ρ) (he : EvT P r T e) (u : ∀ z, UpS i P (Sl R z) (Pz z)) (n : ∀ z, Bl pe (Pz z) Φ (V z) g) :
    Bl pe P Φ (X.bind fun xs => T.bind fun y => (appR xs y).bind fun ys => letR (put ys) V) (sSeq (sAppL l e) g) := fun ρ E => by
  have hl := hl ρ E
  cases X with
  | err c fs => exact hl.elim
  | stuck => trivial
  | ok xs =>
    obtain ⟨d, putD, el, ⟨k, ds, hk, rfl, h⟩, kk⟩ := hl
    cases k <;> first | cases hk; done | skip
    rw [sSeq_eq]
    unfold sAppL
    rw [el]
    show RelO pe Φ (T.bind fun y => (appR xs y).bind fun ys => letR (put ys) V) (oSeq (oBind (e ρ) ρ (appL (.lst .own ds, putD))) g)
    rw [oSeq_ob]
    refine ob_rel (hp ρ E) (he ρ E) fun a d z => ?_
    unfold appR
    by_cases c : xs.length < LINE
    · rw [if_pos c]
      obtain ⟨d2, h2, e2⟩ := kk (xs ++ [a]) (.lst .own (ds ++ [d])) ⟨.own, _, rfl, rfl, h.app (.cons z .nil)⟩
      have : appL (.lst .own ds, putD) d = .next (ρ.set i (some d2)) := by
        unfold appL
        rw [← e2]
        exact if_pos ⟨w.h z, by rw [h.len]; exact c⟩
      rw [this, oSeq_next]
      exact n _ _ ((u _).set E ⟨d2, rfl, h2⟩)
    · rw [if_neg c]; trivial
end
end DH
/-! Typed readings: one kind of value as another. -/
namespace DH
open PySem L2
section
variable {α β γ δ : Type} {P : List Slot} {r r' : Rl α} {s s' : Rl β} {f : α → β} {e : Rho → Res D} {a : α}
def CoV (r : Rl α) (s : Rl β) (f : α → β) : Prop := ∀ a d, r a d → s (f a) d
def CoS (r : Rls α) (s : Rls β) (f : α → β) : Prop := ∀ a ds, r a ds → s (f a) ds
theorem co_id : CoV r r fun a => a := fun _ _ h => h
theorem co_wk [w : Wk r r'] : CoV r r' fun a => a := fun _ _ h => w.h h
theorem co_none : CoV rN (rO s) fun _ => none := fun _ _ h => h
theorem co_some (h : CoV r s f) : CoV r (rO s) fun a => some (f a) := fun a d z => h a d z
theorem co_opt (h : CoV r s f) : CoV (rO r) (rO s) fun a => a.map f := fun a d z => by
  cases a with
  | none => exact z
  | some a => exact h a d z
theorem co_inl {q : Rl γ} (h : CoV r s f) : CoV r (rU s q) fun a => .inl (f a) := fun a d z => h a d z
theorem co_inr {q : Rl γ} (h : CoV r s f) : CoV r (rU q s) fun a => .inr (f a) := fun a d z => h a d z
theorem co_s1 (h : CoV r s f) : CoS (rs1 r) (rs1 s) f := fun a ds ⟨d, e, z⟩ => ⟨d, e, h a d z⟩
theorem co_sC {q : Rls γ} {q' : Rls δ} {g : γ → δ} (h : CoV r s f) (k : CoS q q' g) : CoS (rsC r q) (rsC s q') fun p => (f p.1, g p.2) := fun p ds ⟨d, es, e, z, y⟩ => ⟨d, es, e, h _ _ z, k _ _ y⟩
theorem co_T {q : Rls γ} {q' : Rls δ} {g : γ → δ} (k : CoS q q' g) : CoV (rT q) (rT q') g := fun p d ⟨ds, e, z⟩ => ⟨ds, e, k _ _ z⟩
theorem Al.co (h : CoV r s f) : ∀ {as : List α} {ds : List D}, Al r as ds → Al s (as.map f) ds
  | _, _, .nil => .nil
  | _, _, .cons z t => .cons (h _ _ z) (t.co h)
theorem co_L {m : Md} (h : CoV r s f) : CoV (rL m r) (rL m s) fun xs => xs.map f := fun xs d ⟨k, ds, hk, e, z⟩ => ⟨k, ds, hk, e, z.co h⟩
theorem co_Q (h : CoV r s f) : CoV (rQ r) (rQ s) fun xs => xs.map f := fun xs d ⟨ds, e, z⟩ => ⟨ds, e, z.co h⟩
theorem t_co (h : CoV r s f) (k : EvT P r (.ok a) e) : EvT P s (.ok (f a)) e := fun ρ E => by
  obtain ⟨d, q, z⟩ := k ρ E
  exact ⟨d, q, h a d z⟩
theorem t_cor {T : Res α} (h : CoV r s f) (k : EvT P r T e) : EvT P s (T.bind fun a => .ok (f a)) e := fun ρ E => by
  have k := k ρ E
  cases T with
  | ok a => obtain ⟨d, q, z⟩ := k; exact ⟨d, q, h a d z⟩
  | err c fs => exact k
  | stuck => trivial
theorem inL_iff [DecidableEq α] {a : α} {xs : List α} : inL a xs = true ↔ a ∈ xs := decide_eq_true_iff
section
variable {py : α → PyData} {ok : α → Bool} {n n' : Nat} {q q' : Rl α} {b : α} {xs : List α} {m : Md} {d d' : D} [DecidableEq α] [w1 : PyE q py ok n] [w2 : PyE q' py ok n']
theorem o_inL [v : PyI py ok] [u : OkA ok] (hn : n ≤ 12) (hn' : n' ≤ 11) (h1 : q a d) (h2 : rL m q' xs d') : RelE rB (.ok (inL a xs)) (inD d d') := o_in hn hn' h1 h2
theorem o_ninL [v : PyI py ok] [u : OkA ok] (hn : n ≤ 12) (hn' : n' ≤ 11) (h1 : q a d) (h2 : rL m q' xs d') : RelE rB (.ok (!inL a xs)) (ninD d d') := o_nin hn hn' h1 h2
theorem o_inPL [v : PyI py ok] (hn : n ≤ 12) (hn' : n' ≤ 11) (h1 : q a d) (h2 : rL m q' xs d') : RelE rB (eqG (ok a && okL ok xs) (inL a xs)) (inD d d') := o_inP hn hn' h1 h2
theorem o_ninPL [v : PyI py ok] (hn : n ≤ 12) (hn' : n' ≤ 11) (h1 : q a d) (h2 : rL m q' xs d') : RelE rB (eqG (ok a && okL ok xs) (!inL a xs)) (ninD d d') := o_ninP hn hn' h1 h2
/-- what Python holds for equal, where kinds mix -/
theorem o_eqV (hn : n ≤ 12) (hn' : n' ≤ 12) (h1 : q a d) (h2 : q' b d') : RelE rB (eqG (ok a && ok b) (PyData.eqv (py a) (py b))) (eqD d d') := by
  unfold eqG
  by_cases c : (ok a && ok b) = true
  · rw [if_pos c]
    obtain ⟨k1, k2⟩ := Bool.and_eq_true_iff.mp c
    obtain ⟨p1, q1⟩ := w1.h h1
    obtain ⟨p2, q2⟩ := w2.h h2
    rw [eqD_plain (plain_mono hn (q1 k1)) (plain_mono hn' (q2 k2))]
    unfold eqb
    rw [p1, p2]; exact rel_ok rfl
  · rw [if_neg c]; trivial
theorem o_neV (hn : n ≤ 12) (hn' : n' ≤ 12) (h1 : q a d) (h2 : q' b d') : RelE rB (eqG (ok a && ok b) (!PyData.eqv (py a) (py b))) (neD d d') := by
  have z := o_eqV (q := q) (q' := q') hn hn' h1 h2
  unfold eqG at z ⊢
  by_cases c : (ok a && ok b) = true
  · rw [if_pos c] at z ⊢
    obtain ⟨d0, e, h⟩ := z
    rw [show d0 = .bl _ from h] at e
    unfold neD
    rw [e]; exact rel_ok rfl
  · rw [if_neg c]; trivial
end
/-! a name that may be unbound -/
def SM (r : Rl α) (v : Option α) : Slot := fun o => ∀ a, v = some a → Sl r a o
def isO (p : α → Bool) : Option α → Bool
  | none => false
  | some a => p a
@[simp] theorem isO_none {p : α → Bool} : isO p none = false := rfl
@[simp] theorem isO_some {p : α → Bool} : isO p (some a) = p a := rfl
theorem o_isiOg {t : String} {p : α → Bool} {o : Option α} {d : D} (h : ∀ a {d}, r a d → RelE rB (.ok (p a)) (isiD t d)) (h1 : rO r o d) : RelE rB (.ok (isO p o)) (isiD t d) := by
  cases o with
  | none => rw [show d = .non from h1]; exact rel_ok rfl
  | some a => exact h a h1
theorem t_stuck : EvT P r .stuck e := fun _ _ => trivial
theorem sm_some {o : Option D} (h : Sl r a o) : SM r (some a) o := fun b e => by cases e; exact h
theorem sm_someW [w : Wk r r'] {o : Option D} (h : Sl r a o) : SM r' (some a) o := fun b e => by
  cases e
  obtain ⟨d, e1, h⟩ := h
  exact ⟨d, e1, w.h h⟩
theorem sm_none {p : Slot} {o : Option D} (_ : p o) : SM r none o := fun b e => nomatch e
theorem sm_wk [w : Wk r r'] {v : Option α} {o : Option D} (h : SM r v o) : SM r' v o := fun b e => by
  obtain ⟨d, e1, h⟩ := h b e
  exact ⟨d, e1, w.h h⟩
theorem t_varM {i : Nat} {v : Option α} (h : AtS i P (SM r v)) : EvT P r (optR v) (eVar i) := fun ρ E => by
  cases v with
  | none => trivial
  | some a =>
    obtain ⟨o, e, k⟩ := h.get E
    obtain ⟨d, rfl, z⟩ := k a rfl
    exact ⟨d, by rw [eVar_eq, e]; rfl, z⟩
theorem t_cutP {ra : Rl α} {rb : Rl β} {lo hi : Option Int} {el eh : Rho → Res (Option Int)} {T1 : Res α} {T : α → Res β} (h : EvT P ra T1 e) (hl : EoT P (.ok lo) el) (hh : EoT P (.ok hi) eh) (o : ∀ a {d}, ra a d → RelE rb (T a) (cutD lo hi d)) : EvT P rb (T1.bind T) (eCut e el eh) := fun ρ E => by
  rw [eCut_eq]
  refine (h ρ E).bind fun a d z => ?_
  rw [show el ρ = .ok lo from hl ρ E, rb_ok, show eh ρ = .ok hi from hh ρ E, rb_ok]
  exact o a z
/-! a place within one of two kinds -/
theorem bl_outr {γ δ τ : Type} {i : Nat} {R : Rl τ} {q : Rl γ} {q' : Rl δ} {put : γ ⊕ δ → τ} {l : Rho → Res LD} {pe : Rho → Prop} {Φ : Ph β} {st : Rho → Out} {u : γ ⊕ δ} {K : δ → Res β} (hl : LnT i P R (rU q q') (.ok u) put l)
    (n : ∀ t, LnT i P R q' (.ok t) (fun a => put (Sum.inr a)) l → Bl pe P Φ (K t) st) : Bl pe P Φ ((outr u).bind K) st := by
  cases u with
  | inl a => exact fun ρ E => trivial
  | inr t => exact n t fun ρ E => by obtain ⟨d, putD, e, hd, kk⟩ := hl ρ E; exact ⟨d, putD, e, hd, fun x' d' h' => kk (.inr x') d' h'⟩
theorem bl_outl {γ δ τ : Type} {i : Nat} {R : Rl τ} {q : Rl γ} {q' : Rl δ} {put : γ ⊕ δ → τ} {l : Rho → Res LD} {pe : Rho → Prop} {Φ : Ph β} {st : Rho → Out} {u : γ ⊕ δ} {K : γ → Res β} (hl : LnT i P R (rU q q') (.ok u) put l)
    (n : ∀ t, LnT i P R q (.ok t) (fun a => put (Sum.inl a)) l → Bl pe P Φ (K t) st) : Bl pe P Φ ((outl u).bind K) st := by
  cases u with
  | inr a => exact fun ρ E => trivial
  | inl t => exact n t fun ρ E => by obtain ⟨d, putD, e, hd, kk⟩ := hl ρ E; exact ⟨d, putD, e, hd, fun x' d' h' => kk (.inl x') d' h'⟩
end
end DH
/-! kept = list(xs), typed. -/
namespace DH
open PySem L2
section
variable {α τ : Type} {P P' : List Slot} {r : Rl α} {xs : List α} {m : Md} {pe : Rho → Prop} {Φ : Ph τ} {T : Res τ} {f : Rho → Out}
theorem UpS.lt : ∀ {i : Nat} {P Q : List Slot} {p : Slot} {ρ : Rho}, UpS i P p Q → Env P ρ → i < ρ.length
  | _, _, _, _, _, .z, .cons _ _ => Nat.succ_pos _
  | _, _, _, _, _, .s t, .cons _ e => Nat.succ_lt_succ (t.lt e)
theorem b_keep {i j : Nat} [e1 : ElOk m r] [e2 : IsDup (rL m r)] (hx : AtS i P (Sl (rL m r) xs)) (u : UpS j P (Sl (rL .frz r) xs) P') (h : Bl pe P' Φ T f) : Bl pe P Φ T (sKeep i j f) := fun ρ E => by
  obtain ⟨o, q, d, rfl, z⟩ := hx.get E
  have hd := e2.h z
  obtain ⟨k, ds, hk, rfl, al⟩ := z
  unfold sKeep
  rw [q]
  show RelO pe Φ T (if _ then _ else _)
  rw [if_pos ⟨hd, e1.h hk al, u.lt E⟩]
  exact h _ (u.set E ⟨_, rfl, .frz, ds, rfl, rfl, al⟩)
end
end DH
namespace K47
open PySem L2 DH
/-- which class a clause takes -/
def tabT : Tab := ([("BadOrder", "Empty", false), ("BadOrder", "MeterError", true), ("BadOrder", "OutOfRange", false), ("BadOrder", "TooMany", false), ("Empty", "Empty", true), ("Empty", "MeterError", true), ("Empty", "OutOfRange", false), ("Empty", "TooMany", false), ("OutOfRange", "Empty", false), ("OutOfRange", "MeterError", true), ("OutOfRange", "OutOfRange", true), ("OutOfRange", "TooMany", false), ("TooMany", "Empty", false), ("TooMany", "MeterError", true), ("TooMany", "OutOfRange", false), ("TooMany", "TooMany", true)] : Tab)
def subT : Str → Str → Option Bool := tabSub tabT
theorem sub_BadOrder_Empty : subT "BadOrder" "Empty" = some false := by decide +kernel
theorem sub_BadOrder_MeterError : subT "BadOrder" "MeterError" = some true := by decide +kernel
theorem sub_BadOrder_OutOfRange : subT "BadOrder" "OutOfRange" = some false := by decide +kernel
theorem sub_BadOrder_TooMany : subT "BadOrder" "TooMany" = some false := by decide +kernel
theorem sub_Empty_Empty : subT "Empty" "Empty" = some true := by decide +kernel
theorem sub_Empty_MeterError : subT "Empty" "MeterError" = some true := by decide +kernel
theorem sub_Empty_OutOfRange : subT "Empty" "OutOfRange" = some false := by decide +kernel
theorem sub_Empty_TooMany : subT "Empty" "TooMany" = some false := by decide +kernel
theorem sub_OutOfRange_Empty : subT "OutOfRange" "Empty" = some false := by decide +kernel
theorem sub_OutOfRange_MeterError : subT "OutOfRange" "MeterError" = some true := by decide +kernel
theorem sub_OutOfRange_OutOfRange : subT "OutOfRange" "OutOfRange" = some true := by decide +kernel
theorem sub_OutOfRange_TooMany : subT "OutOfRange" "TooMany" = some false := by decide +kernel
theorem sub_TooMany_Empty : subT "TooMany" "Empty" = some false := by decide +kernel
theorem sub_TooMany_MeterError : subT "TooMany" "MeterError" = some true := by decide +kernel
theorem sub_TooMany_OutOfRange : subT "TooMany" "OutOfRange" = some false := by decide +kernel
theorem sub_TooMany_TooMany : subT "TooMany" "TooMany" = some true := by decide +kernel
/-! _law_row: 0 cell, 1 many, 2 row, 3 k, 4 mixed -/
def b__law_row : Rho → Out :=
  (sSeq (sSet 2 (eLst aNil))
  (sSeq (sIf (bE (eB2 geD (eVar 0) (eB2 powD (eC (.int 10)) (eC (.int 18))))) (sSeq (sFor (gN 3) (iRg rng1D (aCons (eVar 1) aNil)) (sSeq (sApp 2 (eB2 modD (eN intD (aCons (eVar 0) aNil)) (eC (.int 1000000))))
      (sSet 0 (eB2 fdivD (eVar 0) (eC (.int 1000000))))))
    (sRetV 2)) sNil)
  (sSeq (sFor (gN 3) (iRg rng1D (aCons (eVar 1) aNil)) (sSeq (sSet 4 (eB2 modD (eN intD (aCons (eB2 addD (eB2 addD (eB2 mulD (eVar 0) (eC (.int 48271))) (eB2 mulD (eVar 3) (eC (.int 69621)))) (eC (.int 4177))) aNil)) (eC (.int 2147483647))))
    (sApp 2 (eB2 modD (eN intD (aCons (eB2 addD (eB2 addD (eB2 mulD (eVar 4) (eC (.int 16807))) (eB2 mulD (eB2 mulD (eVar 3) (eVar 3)) (eC (.int 7919)))) (eC (.int 271))) aNil)) (eC (.int 2147483629))))))
  (sRetV 2))))
def m__law_row : List D → Res D := runF b__law_row 3
/-! _law_at: 0 row, 1 at, 2 many -/
def b__law_at : Rho → Out :=
  (sRet (eB2 modD (eN intD (aCons (eB2 ixD (eVar 0) (eVar 1)) aNil)) (eVar 2)))
def m__law_at : List D → Res D := runF b__law_at 0
/-! _law_steps: 0 row, 1 at, 2 count, 3 wide, 4 mode, 5 units, 6 prices, 7 k, 8 room -/
def b__law_steps : Rho → Out :=
  (sSeq (sSet 5 (eLst (aCons (eC (.int 0)) aNil)))
  (sSeq (sSet 6 (eLst aNil))
  (sSeq (sFor (gN 7) (iRg rng1D (aCons (eVar 2) aNil)) (sSeq (sIf (bE (eB2 gtD (eVar 7) (eC (.int 0)))) (sSeq (sSet 8 (eB2 subD (eB2 addD (eB2 subD (eC (.int 1000001)) (eVar 2)) (eVar 7)) (eB2 ixD (eVar 5) (eU1 negD (eC (.int 1))))))
      (sApp 5 (eB2 addD (eB2 addD (eB2 ixD (eVar 5) (eU1 negD (eC (.int 1)))) (eC (.int 1))) (eCall 3 m__law_at (aCons (eVar 0) (aCons (eB2 addD (eVar 1) (eB2 mulD (eC (.int 3)) (eVar 7))) (aCons (eN min2D (aCons (eVar 8) (aCons (eB2 ixD (eTmp (aCons (eC (.int 6)) (aCons (eC (.int 1000000)) aNil))) (eVar 3)) aNil))) aNil))))))) sNil)
    (sSeq (sApp 6 (eCall 3 m__law_at (aCons (eVar 0) (aCons (eB2 addD (eB2 addD (eVar 1) (eB2 mulD (eC (.int 3)) (eVar 7))) (eC (.int 1))) (aCons (eB2 ixD (eTmp (aCons (eC (.int 10)) (aCons (eC (.int 1000001)) aNil))) (eVar 3)) aNil)))))
    (sIf (bAnd (bE (eB2 gtD (eVar 7) (eC (.int 0)))) (bE (eB2 eqD (eCall 3 m__law_at (aCons (eVar 0) (aCons (eB2 addD (eB2 addD (eVar 1) (eB2 mulD (eC (.int 3)) (eVar 7))) (eC (.int 2))) (aCons (eC (.int 4)) aNil)))) (eC (.int 1))))) (sIx 6 (eVar 7) (eB2 ixD (eVar 6) (eB2 subD (eVar 7) (eC (.int 1))))) sNil))))
  (sSeq (sIf (bE (eB2 eqD (eVar 4) (eC (.int 1)))) (sSet 6 (eN sortD (aCons (eVar 6) aNil))) sNil)
  (sSeq (sIf (bE (eB2 eqD (eVar 4) (eC (.int 2)))) (sSet 6 (eSortB true (eVar 6))) sNil)
  (sRet (eComp [7] (iRg rng1D (aCons (eVar 2) aNil)) (gN 7) bYes (eTup (aCons (eDup (eB2 ixD (eVar 5) (eVar 7))) (aCons (eDup (eB2 ixD (eVar 6) (eVar 7))) aNil))))))))))
def m__law_steps : List D → Res D := runF b__law_steps 4
/-! _law_plans: 0 row, 1 many, 2 most, 3 wide, 4 plans, 5 k, 6 at, 7 standing, 8 steps, 9 spot, 10 price -/
def b__law_plans : Rho → Out :=
  (sSeq (sSet 4 (eLst aNil))
  (sSeq (sFor (gN 5) (iRg rng1D (aCons (eVar 1) aNil)) (sSeq (sSet 6 (eB2 mulD (eC (.int 12)) (eVar 5)))
    (sSeq (sSet 7 (eCall 3 m__law_at (aCons (eVar 0) (aCons (eVar 6) (aCons (eB2 ixD (eTmp (aCons (eC (.int 30)) (aCons (eC (.int 1000001)) aNil))) (eVar 3)) aNil)))))
    (sSeq (sSet 8 (eCall 5 m__law_steps (aCons (eVar 0) (aCons (eB2 addD (eVar 6) (eC (.int 1))) (aCons (eB2 addD (eCall 3 m__law_at (aCons (eVar 0) (aCons (eB2 addD (eVar 6) (eC (.int 10))) (aCons (eVar 2) aNil)))) (eC (.int 1))) (aCons (eVar 3) (aCons (eC (.int 0)) aNil)))))))
    (sSeq (sIf (bAnd (bE (eB2 gtD (eVar 5) (eC (.int 0)))) (bE (eB2 gtD (eCall 3 m__law_at (aCons (eVar 0) (aCons (eB2 addD (eVar 6) (eC (.int 11))) (aCons (eC (.int 3)) aNil)))) (eC (.int 0))))) (sSeq (sSet 7 (eN max2D (aCons (eC (.int 0)) (aCons (eN min2D (aCons (eC (.int 1000000)) (aCons (eB2 subD (eB2 addD (eB2 ixD (eB2 ixD (eVar 4) (eB2 subD (eVar 5) (eC (.int 1)))) (eC (.int 0))) (eCall 3 m__law_at (aCons (eVar 0) (aCons (eVar 6) (aCons (eC (.int 41)) aNil))))) (eC (.int 20))) aNil))) aNil))))
      (sSeq (sSet 8 (eN listD (aCons (eB2 ixD (eB2 ixD (eVar 4) (eB2 subD (eVar 5) (eC (.int 1)))) (eC (.int 1))) aNil)))
      (sSeq (sSet 9 (eCall 3 m__law_at (aCons (eVar 0) (aCons (eB2 addD (eVar 6) (eC (.int 1))) (aCons (eN lenD (aCons (eVar 8) aNil)) aNil)))))
      (sSeq (sSet 10 (eN max2D (aCons (eC (.int 0)) (aCons (eN min2D (aCons (eC (.int 1000000)) (aCons (eB2 subD (eB2 addD (eB2 ixD (eB2 ixD (eVar 8) (eVar 9)) (eC (.int 1))) (eCall 3 m__law_at (aCons (eVar 0) (aCons (eB2 addD (eVar 6) (eC (.int 2))) (aCons (eC (.int 5)) aNil))))) (eC (.int 2))) aNil))) aNil))))
      (sIx 8 (eVar 9) (eTup (aCons (eB2 ixD (eB2 ixD (eVar 8) (eVar 9)) (eC (.int 0))) (aCons (eVar 10) aNil)))))))) sNil)
    (sFrz 8 (sApp 4 (eTup (aCons (eDup (eVar 7)) (aCons (eDup (eVar 8)) aNil))))))))))
  (sRetV 4)))
def m__law_plans : List D → Res D := runF b__law_plans 7
/-! check_tariffs: 0 tariffs -/
def b_check_tariffs : Rho → Out :=
  (sSeq (sIf (bNot (bT (eVar 0))) (sRaise0 "Empty") sNil)
  (sIf (bE (eB2 gtD (eN lenD (aCons (eVar 0) aNil)) (eC (.int 8)))) (sRaise "TooMany" ["limit"] (aCons (eC (.int 8)) aNil)) sNil))
def m_check_tariffs : List D → Res D := runF b_check_tariffs 0
/-! check_choice: 0 tariffs, 1 k -/
def b_check_choice : Rho → Out :=
  (sSeq (sDrop (eCall 1 m_check_tariffs (aCons (eVar 0) aNil)))
  (sIf (bNot (bE (eCh2 leD ltD (eC (.int 0)) (eVar 1) (eN lenD (aCons (eVar 0) aNil))))) (sRaise0 "OutOfRange") sNil))
def m_check_choice : List D → Res D := runF b_check_choice 0
/-! check_uses: 0 days, 1 least, 2 greatest -/
def b_check_uses : Rho → Out :=
  (sSeq (sIf (bNot (bE (eCh2 leD leD (eC (.int 1)) (eVar 0) (eC (.int 400))))) (sRaise0 "OutOfRange") sNil)
  (sIf (bNot (bE (eCh3 leD leD leD (eC (.int 0)) (eVar 1) (eVar 2) (eC (.int 1000000000))))) (sRaise0 "OutOfRange") sNil))
def m_check_uses : List D → Res D := runF b_check_uses 0
/-! check_use: 0 use, 1 days -/
def b_check_use : Rho → Out :=
  (sSeq (sIf (bNot (bE (eCh2 leD leD (eC (.int 0)) (eVar 0) (eC (.int 1000000000))))) (sRaise0 "OutOfRange") sNil)
  (sIf (bNot (bE (eCh2 leD leD (eC (.int 1)) (eVar 1) (eC (.int 400))))) (sRaise0 "OutOfRange") sNil))
def m_check_use : List D → Res D := runF b_check_use 0
/-! Tariff.charge: 0 self, 1 use, 2 days, 3 total, 4 last, 5 unit, 6 price -/
def b_Tariff_charge : Rho → Out :=
  (sSeq (sDrop (eCall 2 m_check_use (aCons (eVar 1) (aCons (eVar 2) aNil))))
  (sSeq (sSet 3 (eB2 mulD (eU1 (fldD "standing") (eVar 0)) (eVar 2)))
  (sSeq (sSet 4 (eC (.int 0)))
  (sSeq (sFor (gTp (gCn (gN 5) (gCn (gN 6) gNl))) (iOf (eU1 (fldD "steps") (eVar 0))) (sSeq (sAug (fun i j => i + j) 3 (eB2 mulD (eB2 subD (eVar 6) (eVar 4)) (eN max2D (aCons (eC (.int 0)) (aCons (eB2 subD (eVar 1) (eB2 mulD (eVar 5) (eVar 2))) aNil)))))
    (sSet 4 (eDup (eVar 6)))))
  (sRetV 3)))))
def m_Tariff_charge : List D → Res D := runF b_Tariff_charge 4
/-! plain_regret: 0 tariffs, 1 k, 2 days, 3 use, 4 tariff -/
def b_plain_regret : Rho → Out :=
  (sRet (eB2 subD (eMeth "Tariff" "charge" 3 m_Tariff_charge (eB2 ixD (eVar 0) (eVar 1)) (aCons (eVar 3) (aCons (eVar 2) aNil))) (eN min1D (aCons (eComp [4] (iAny (eVar 0)) (gN 4) bYes (eMeth "Tariff" "charge" 3 m_Tariff_charge (eVar 4) (aCons (eVar 3) (aCons (eVar 2) aNil)))) aNil))))
def m_plain_regret : List D → Res D := runF b_plain_regret 1
/-! regret_of: 0 tariffs, 1 k, 2 days, 3 use -/
def b_regret_of : Rho → Out :=
  (sSeq (sDrop (eCall 2 m_check_choice (aCons (eVar 0) (aCons (eVar 1) aNil))))
  (sSeq (sDrop (eCall 3 m_check_uses (aCons (eVar 2) (aCons (eVar 3) (aCons (eVar 3) aNil)))))
  (sRet (eCall 4 m_plain_regret (aCons (eVar 0) (aCons (eVar 1) (aCons (eVar 2) (aCons (eVar 3) aNil))))))))
def m_regret_of : List D → Res D := runF b_regret_of 0
/-! check_frame: 0 days, 1 top -/
def b_check_frame : Rho → Out :=
  (sSeq (sIf (bNot (bE (eCh2 leD leD (eC (.int 1)) (eVar 0) (eC (.int 400))))) (sRaise0 "OutOfRange") sNil)
  (sIf (bNot (bE (eCh2 leD leD (eC (.int 0)) (eVar 1) (eC (.int 1000000000))))) (sRaise0 "OutOfRange") sNil))
def m_check_frame : List D → Res D := runF b_check_frame 0
/-! corners_of: 0 first, 1 second, 2 days, 3 top, 4 units, 5 unit, 6 price -/
def b_corners_of : Rho → Out :=
  (sSeq (sDrop (eCall 2 m_check_frame (aCons (eVar 2) (aCons (eVar 3) aNil))))
  (sSeq (sSet 4 (eB2 addD (eComp [5, 6] (iAny (eU1 (fldD "steps") (eVar 0))) (gTp (gCn (gN 5) (gCn (gN 6) gNl))) bYes (eDup (eVar 5))) (eComp [5, 6] (iAny (eU1 (fldD "steps") (eVar 1))) (gTp (gCn (gN 5) (gCn (gN 6) gNl))) bYes (eDup (eVar 5)))))
  (sRet (eN sortSetD (aCons (eB2 addD (eLst (aCons (eC (.int 0)) (aCons (eDup (eVar 3)) aNil))) (eComp [5] (iAny (eVar 4)) (gN 5) (bE (eB2 leD (eB2 mulD (eVar 5) (eVar 2)) (eVar 3))) (eB2 mulD (eVar 5) (eVar 2)))) aNil)))))
def m_corners_of : List D → Res D := runF b_corners_of 3
/-! turning_uses: 0 tariffs, 1 k, 2 days, 3 least, 4 greatest, 5 uses, 6 tariff, 7 corner -/
def b_turning_uses : Rho → Out :=
  (sSeq (sSet 5 (eLst (aCons (eDup (eVar 3)) (aCons (eDup (eVar 4)) aNil))))
  (sSeq (sFor (gN 6) (iOf (eVar 0)) (sFor (gN 7) (iNew (eCall 4 m_corners_of (aCons (eB2 ixD (eVar 0) (eVar 1)) (aCons (eVar 6) (aCons (eVar 2) (aCons (eVar 4) aNil)))))) (sIf (bE (eB2 geD (eVar 7) (eVar 3))) (sApp 5 (eDup (eVar 7))) sNil)))
  (sRet (eN sortSetD (aCons (eVar 5) aNil)))))
def m_turning_uses : List D → Res D := runF b_turning_uses 3
/-! worst_of: 0 tariffs, 1 k, 2 days, 3 least, 4 greatest, 5 best, 6 use, 7 regret -/
def b_worst_of : Rho → Out :=
  (sSeq (sSet 5 (eTup (aCons (eCall 4 m_plain_regret (aCons (eVar 0) (aCons (eVar 1) (aCons (eVar 2) (aCons (eVar 3) aNil))))) (aCons (eDup (eVar 3)) aNil))))
  (sSeq (sFor (gN 6) (iNew (eCall 5 m_turning_uses (aCons (eVar 0) (aCons (eVar 1) (aCons (eVar 2) (aCons (eVar 3) (aCons (eVar 4) aNil))))))) (sSeq (sSet 7 (eCall 4 m_plain_regret (aCons (eVar 0) (aCons (eVar 1) (aCons (eVar 2) (aCons (eVar 6) aNil))))))
    (sIf (bE (eB2 gtD (eVar 7) (eB2 ixD (eVar 5) (eC (.int 0))))) (sSet 5 (eTup (aCons (eDup (eVar 7)) (aCons (eDup (eVar 6)) aNil)))) sNil)))
  (sRetV 5)))
def m_worst_of : List D → Res D := runF b_worst_of 3
/-! worst_regret: 0 tariffs, 1 k, 2 days, 3 least, 4 greatest -/
def b_worst_regret : Rho → Out :=
  (sSeq (sDrop (eCall 2 m_check_choice (aCons (eVar 0) (aCons (eVar 1) aNil))))
  (sSeq (sDrop (eCall 3 m_check_uses (aCons (eVar 2) (aCons (eVar 3) (aCons (eVar 4) aNil)))))
  (sRet (eCall 5 m_worst_of (aCons (eVar 0) (aCons (eVar 1) (aCons (eVar 2) (aCons (eVar 3) (aCons (eVar 4) aNil)))))))))
def m_worst_regret : List D → Res D := runF b_worst_regret 0
/-! least_regret: 0 tariffs, 1 days, 2 least, 3 greatest, 4 best, 5 k -/
def b_least_regret : Rho → Out :=
  (sSeq (sDrop (eCall 1 m_check_tariffs (aCons (eVar 0) aNil)))
  (sSeq (sDrop (eCall 3 m_check_uses (aCons (eVar 1) (aCons (eVar 2) (aCons (eVar 3) aNil)))))
  (sSeq (sSet 4 (eC (.int 0)))
  (sSeq (sFor (gN 5) (iRg rng1D (aCons (eN lenD (aCons (eVar 0) aNil)) aNil)) (sIf (bE (eB2 ltD (eB2 ixD (eCall 5 m_worst_of (aCons (eVar 0) (aCons (eVar 5) (aCons (eVar 1) (aCons (eVar 2) (aCons (eVar 3) aNil)))))) (eC (.int 0))) (eB2 ixD (eCall 5 m_worst_of (aCons (eVar 0) (aCons (eVar 4) (aCons (eVar 1) (aCons (eVar 2) (aCons (eVar 3) aNil)))))) (eC (.int 0))))) (sSet 4 (eDup (eVar 5))) sNil))
  (sRet (eTup (aCons (eDup (eVar 4)) (aCons (eDup (eB2 ixD (eCall 5 m_worst_of (aCons (eVar 0) (aCons (eVar 4) (aCons (eVar 1) (aCons (eVar 2) (aCons (eVar 3) aNil)))))) (eC (.int 0)))) aNil))))))))
def m_least_regret : List D → Res D := runF b_least_regret 2
/-! _law_called: 0 door, 1 tariffs, 2 k, 3 days, 4 least, 5 greatest, 6 e -/
def b__law_called : Rho → Out :=
  (sSeq (sTry subT (sSeq (sIf (bE (eB2 eqD (eVar 0) (eC (.int 0)))) (sDrop (eCall 4 m_regret_of (aCons (eVar 1) (aCons (eVar 2) (aCons (eVar 3) (aCons (eVar 5) aNil)))))) sNil)
    (sSeq (sIf (bE (eB2 eqD (eVar 0) (eC (.int 1)))) (sDrop (eCall 5 m_worst_regret (aCons (eVar 1) (aCons (eVar 2) (aCons (eVar 3) (aCons (eVar 4) (aCons (eVar 5) aNil))))))) sNil)
    (sIf (bE (eB2 eqD (eVar 0) (eC (.int 2)))) (sDrop (eCall 4 m_least_regret (aCons (eVar 1) (aCons (eVar 3) (aCons (eVar 4) (aCons (eVar 5) aNil)))))) sNil))) [⟨"Empty", none, fun fs => (sRet (eC (.str "empty")))⟩, ⟨"TooMany", some 6, fun fs => (sRet (eB2 addD (eC (.str "many")) (eN strD (aCons (eXf fs "limit") aNil))))⟩, ⟨"OutOfRange", none, fun fs => (sRet (eC (.str "range")))⟩, ⟨"MeterError", none, fun fs => (sRet (eC (.str "other")))⟩])
  (sRet (eC (.str "fine"))))
def m__law_called : List D → Res D := runF b__law_called 1
/-! _law_refused: 0 row, 1 tariffs, 2 far, 3 many, 4 nine, 5 door, 6 due, 7 one -/
def b__law_refused : Rho → Out :=
  (sSeq (sSet 2 (eB2 mulD (eCall 3 m__law_at (aCons (eVar 0) (aCons (eC (.int 0)) (aCons (eC (.int 2)) aNil)))) (eCall 3 m__law_at (aCons (eVar 0) (aCons (eC (.int 1)) (aCons (eC (.int 1000000)) aNil))))))
  (sSeq (sSet 3 (eN lenD (aCons (eVar 1) aNil)))
  (sSeq (sSet 4 (eCut (eB2 mulD (eVar 1) (eC (.int 9))) oNone (oSome (eC (.int 9)))))
  (sFrz 4 (sSeq (sFor (gN 5) (iRg rng1D (aCons (eC (.int 3)) aNil)) (sFrz 4 (sSeq (sSet 6 (eLst (aCons (eTup (aCons (eFrz (eLst aNil)) (aCons (eC (.int 0)) (aCons (eC (.int 1)) (aCons (eC (.int 0)) (aCons (eC (.int 5)) (aCons (eC (.str "empty")) aNil))))))) (aCons (eTup (aCons (eFrz (eLst aNil)) (aCons (eC (.int 7)) (aCons (eC (.int 0)) (aCons (eC (.int 5)) (aCons (eU1 negD (eC (.int 1))) (aCons (eC (.str "empty")) aNil))))))) (aCons (eTup (aCons (eDup (eVar 4)) (aCons (eC (.int 0)) (aCons (eC (.int 1)) (aCons (eC (.int 0)) (aCons (eC (.int 5)) (aCons (eC (.str "many8")) aNil))))))) (aCons (eTup (aCons (eDup (eVar 4)) (aCons (eC (.int 9)) (aCons (eC (.int 0)) (aCons (eC (.int 5)) (aCons (eU1 negD (eC (.int 1))) (aCons (eC (.str "many8")) aNil))))))) aNil))))))
    (sSeq (sSet 6 (eB2 addD (eVar 6) (eLst (aCons (eTup (aCons (eDup (eVar 1)) (aCons (eC (.int 0)) (aCons (eC (.int 0)) (aCons (eC (.int 0)) (aCons (eC (.int 5)) (aCons (eC (.str "range")) aNil))))))) (aCons (eTup (aCons (eDup (eVar 1)) (aCons (eC (.int 0)) (aCons (eU1 negD (eVar 2)) (aCons (eC (.int 0)) (aCons (eC (.int 5)) (aCons (eC (.str "range")) aNil))))))) (aCons (eTup (aCons (eDup (eVar 1)) (aCons (eC (.int 0)) (aCons (eB2 addD (eC (.int 401)) (eVar 2)) (aCons (eC (.int 0)) (aCons (eC (.int 5)) (aCons (eC (.str "range")) aNil))))))) aNil))))))
    (sSeq (sSet 6 (eB2 addD (eVar 6) (eLst (aCons (eTup (aCons (eDup (eVar 1)) (aCons (eB2 subD (eVar 3) (eC (.int 1))) (aCons (eC (.int 400)) (aCons (eC (.int 5)) (aCons (eB2 addD (eC (.int 1000000001)) (eVar 2)) (aCons (eC (.str "range")) aNil))))))) (aCons (eTup (aCons (eDup (eVar 1)) (aCons (eC (.int 0)) (aCons (eC (.int 1)) (aCons (eB2 subD (eU1 negD (eC (.int 1))) (eVar 2)) (aCons (eU1 negD (eC (.int 1))) (aCons (eC (.str "range")) aNil))))))) aNil)))))
    (sSeq (sSet 6 (eB2 addD (eVar 6) (eLst (aCons (eTup (aCons (eDup (eVar 1)) (aCons (eB2 subD (eVar 3) (eC (.int 1))) (aCons (eC (.int 400)) (aCons (eC (.int 1000000000)) (aCons (eC (.int 1000000000)) (aCons (eC (.str "fine")) aNil))))))) (aCons (eTup (aCons (eFrz (eCut (eVar 4) oNone (oSome (eC (.int 8))))) (aCons (eC (.int 7)) (aCons (eC (.int 1)) (aCons (eC (.int 0)) (aCons (eC (.int 0)) (aCons (eC (.str "fine")) aNil))))))) aNil)))))
    (sSeq (sIf (bE (eB2 ltD (eVar 5) (eC (.int 2)))) (sSet 6 (eB2 addD (eVar 6) (eLst (aCons (eTup (aCons (eDup (eVar 1)) (aCons (eB2 addD (eVar 3) (eVar 2)) (aCons (eC (.int 1)) (aCons (eC (.int 0)) (aCons (eC (.int 5)) (aCons (eC (.str "range")) aNil))))))) (aCons (eTup (aCons (eDup (eVar 1)) (aCons (eB2 subD (eU1 negD (eC (.int 1))) (eVar 2)) (aCons (eC (.int 1)) (aCons (eC (.int 0)) (aCons (eC (.int 5)) (aCons (eC (.str "range")) aNil))))))) (aCons (eTup (aCons (eFrz (eLst aNil)) (aCons (eU1 negD (eC (.int 1))) (aCons (eC (.int 1)) (aCons (eC (.int 0)) (aCons (eC (.int 5)) (aCons (eC (.str "empty")) aNil))))))) aNil)))))) sNil)
    (sSeq (sIf (bE (eB2 gtD (eVar 5) (eC (.int 0)))) (sSet 6 (eB2 addD (eVar 6) (eLst (aCons (eTup (aCons (eDup (eVar 1)) (aCons (eC (.int 0)) (aCons (eC (.int 1)) (aCons (eB2 addD (eC (.int 6)) (eVar 2)) (aCons (eC (.int 5)) (aCons (eC (.str "range")) aNil))))))) (aCons (eTup (aCons (eDup (eVar 1)) (aCons (eC (.int 0)) (aCons (eC (.int 1)) (aCons (eB2 subD (eU1 negD (eC (.int 1))) (eVar 2)) (aCons (eC (.int 5)) (aCons (eC (.str "range")) aNil))))))) aNil))))) sNil)
    (sFrz 6 (sFor (gN 7) (iOf (eVar 6)) (sIf (bE (eB2 neD (eCall 6 m__law_called (aCons (eVar 5) (aCons (eB2 ixD (eVar 7) (eC (.int 0))) (aCons (eB2 ixD (eVar 7) (eC (.int 1))) (aCons (eB2 ixD (eVar 7) (eC (.int 2))) (aCons (eB2 ixD (eVar 7) (eC (.int 3))) (aCons (eB2 ixD (eVar 7) (eC (.int 4))) aNil))))))) (eB2 ixD (eVar 7) (eC (.int 5))))) (sRet (eC (.bl false))) sNil)))))))))))
  (sRet (eC (.bl true))))))))
def m__law_refused : List D → Res D := runF b__law_refused 6
/-! _law_cell: 0 script, 1 k -/
def b__law_cell : Rho → Out :=
  (sSeq (sIf (bE (eB2 ltD (eVar 1) (eN lenD (aCons (eVar 0) aNil)))) (sRet (eDup (eB2 ixD (eVar 0) (eVar 1)))) sNil)
  (sRet (eC (.int 0))))
def m__law_cell : List D → Res D := runF b__law_cell 0
/-! check_steps: 0 steps, 1 last, 2 unit, 3 price -/
def b_check_steps : Rho → Out :=
  (sSeq (sIf (bNot (bT (eVar 0))) (sRaise0 "Empty") sNil)
  (sSeq (sIf (bE (eB2 gtD (eN lenD (aCons (eVar 0) aNil)) (eC (.int 8)))) (sRaise "TooMany" ["limit"] (aCons (eC (.int 8)) aNil)) sNil)
  (sSeq (sSet 1 (eU1 negD (eC (.int 1))))
  (sFor (gTp (gCn (gN 2) (gCn (gN 3) gNl))) (iOf (eVar 0)) (sSeq (sIf (bOr (bAnd (bE (eB2 ltD (eVar 1) (eC (.int 0)))) (bE (eB2 neD (eVar 2) (eC (.int 0))))) (bE (eB2 leD (eVar 2) (eVar 1)))) (sRaise0 "BadOrder") sNil)
    (sSeq (sIf (bOr (bE (eB2 gtD (eVar 2) (eC (.int 1000000)))) (bNot (bE (eCh2 leD leD (eC (.int 0)) (eVar 3) (eC (.int 1000000)))))) (sRaise0 "OutOfRange") sNil)
    (sSet 1 (eDup (eVar 2)))))))))
def m_check_steps : List D → Res D := runF b_check_steps 3
/-! Tariff.__init__: 0 self, 1 standing, 2 steps -/
def b_Tariff___init__ : Rho → Out :=
  (sSeq (sIf (bNot (bE (eCh2 leD leD (eC (.int 0)) (eVar 1) (eC (.int 1000000))))) (sRaise0 "OutOfRange") sNil)
  (sSeq (sDrop (eCall 1 m_check_steps (aCons (eVar 2) aNil)))
  (sSeq (sFld "Tariff" "standing" (eDup (eVar 1)))
  (sFld "Tariff" "steps" (eN tupleD (aCons (eVar 2) aNil))))))
def m_Tariff___init__ : List D → Res (List (Str × D)) := runI b_Tariff___init__ "Tariff" 0
/-! _law_uses: 0 plans, 1 days, 2 least, 3 greatest, 4 uses, 5 one, 6 step -/
def b__law_uses : Rho → Out :=
  (sSeq (sIf (bE (eB2 ltD (eB2 subD (eVar 3) (eVar 2)) (eC (.int 61)))) (sRet (eN lrg2D (aCons (eVar 2) (aCons (eB2 addD (eVar 3) (eC (.int 1))) aNil)))) sNil)
  (sSeq (sSet 4 (eLst (aCons (eDup (eVar 2)) (aCons (eDup (eVar 3)) aNil))))
  (sSeq (sFor (gN 5) (iOf (eVar 0)) (sSet 4 (eB2 addD (eVar 4) (eComp [6] (iAny (eB2 ixD (eVar 5) (eC (.int 1)))) (gN 6) (bE (eCh2 ltD ltD (eVar 2) (eB2 mulD (eB2 ixD (eVar 6) (eC (.int 0))) (eVar 1)) (eVar 3))) (eB2 mulD (eB2 ixD (eVar 6) (eC (.int 0))) (eVar 1))))))
  (sRet (eN sortD (aCons (eVar 4) aNil))))))
def m__law_uses : List D → Res D := runF b__law_uses 3
/-! _law_lines: 0 standing, 1 steps, 2 days, 3 use, 4 lines, 5 k, 6 end -/
def b__law_lines : Rho → Out :=
  (sSeq (sSet 4 (eLst (aCons (eTup (aCons (eDup (eVar 2)) (aCons (eDup (eVar 0)) aNil))) aNil)))
  (sSeq (sFor (gN 5) (iRg rng1D (aCons (eN lenD (aCons (eVar 1) aNil)) aNil)) (sSeq (sSet 6 (eDup (eVar 3)))
    (sSeq (sIf (bE (eB2 ltD (eB2 addD (eVar 5) (eC (.int 1))) (eN lenD (aCons (eVar 1) aNil)))) (sSet 6 (eN min2D (aCons (eVar 3) (aCons (eB2 mulD (eB2 ixD (eB2 ixD (eVar 1) (eB2 addD (eVar 5) (eC (.int 1)))) (eC (.int 0))) (eVar 2)) aNil)))) sNil)
    (sIf (bE (eB2 gtD (eVar 6) (eB2 mulD (eB2 ixD (eB2 ixD (eVar 1) (eVar 5)) (eC (.int 0))) (eVar 2)))) (sApp 4 (eTup (aCons (eB2 subD (eVar 6) (eB2 mulD (eB2 ixD (eB2 ixD (eVar 1) (eVar 5)) (eC (.int 0))) (eVar 2))) (aCons (eDup (eB2 ixD (eB2 ixD (eVar 1) (eVar 5)) (eC (.int 1)))) aNil)))) sNil))))
  (sRetV 4)))
def m__law_lines : List D → Res D := runF b__law_lines 3
/-! _law_charge: 0 standing, 1 steps, 2 days, 3 use, 4 one -/
def b__law_charge : Rho → Out :=
  (sRet (eN sumD (aCons (eComp [4] (iNew (eCall 4 m__law_lines (aCons (eVar 0) (aCons (eVar 1) (aCons (eVar 2) (aCons (eVar 3) aNil)))))) (gN 4) bYes (eB2 mulD (eB2 ixD (eVar 4) (eC (.int 0))) (eB2 ixD (eVar 4) (eC (.int 1))))) aNil)))
def m__law_charge : List D → Res D := runF b__law_charge 1
/-! _law_regret: 0 plans, 1 k, 2 days, 3 use, 4 charges, 5 one -/
def b__law_regret : Rho → Out :=
  (sSeq (sSet 4 (eComp [5] (iAny (eVar 0)) (gN 5) bYes (eCall 4 m__law_charge (aCons (eB2 ixD (eVar 5) (eC (.int 0))) (aCons (eB2 ixD (eVar 5) (eC (.int 1))) (aCons (eVar 2) (aCons (eVar 3) aNil)))))))
  (sRet (eB2 subD (eB2 ixD (eVar 4) (eVar 1)) (eN min1D (aCons (eVar 4) aNil)))))
def m__law_regret : List D → Res D := runF b__law_regret 2
/-! _law_worst: 0 plans, 1 k, 2 days, 3 uses, 4 best, 5 use, 6 regret -/
def b__law_worst : Rho → Out :=
  (sSeq (sSet 4 (eTup (aCons (eCall 4 m__law_regret (aCons (eVar 0) (aCons (eVar 1) (aCons (eVar 2) (aCons (eB2 ixD (eVar 3) (eC (.int 0))) aNil))))) (aCons (eDup (eB2 ixD (eVar 3) (eC (.int 0)))) aNil))))
  (sSeq (sFor (gN 5) (iOf (eVar 3)) (sSeq (sSet 6 (eCall 4 m__law_regret (aCons (eVar 0) (aCons (eVar 1) (aCons (eVar 2) (aCons (eVar 5) aNil))))))
    (sIf (bE (eB2 gtD (eVar 6) (eB2 ixD (eVar 4) (eC (.int 0))))) (sSet 4 (eTup (aCons (eDup (eVar 6)) (aCons (eDup (eVar 5)) aNil)))) sNil)))
  (sRetV 4)))
def m__law_worst : List D → Res D := runF b__law_worst 3
/-! _law_is_whole: 0 value -/
def b__law_is_whole : Rho → Out :=
  (sRet (eAnd (eU1 (isiD "int") (eVar 0)) (eNot (eU1 (isiD "bool") (eVar 0)))))
def m__law_is_whole : List D → Res D := runF b__law_is_whole 0
/-! _law_pair: 0 value -/
def b__law_pair : Rho → Out :=
  (sSeq (sIf (bOr (bNot (bT (eU1 (isiD "tuple") (eVar 0)))) (bE (eB2 neD (eN lenD (aCons (eVar 0) aNil)) (eC (.int 2))))) (sRet (eC (.bl false))) sNil)
  (sRet (eAnd (eCall 1 m__law_is_whole (aCons (eB2 ixD (eVar 0) (eC (.int 0))) aNil)) (eCall 1 m__law_is_whole (aCons (eB2 ixD (eVar 0) (eC (.int 1))) aNil)))))
def m__law_pair : List D → Res D := runF b__law_pair 0
/-! _law_right: 0 tariffs, 1 plans, 2 days, 3 least, 4 greatest, 5 uses, 6 worst, 7 k, 8 kept, 9 told, 10 use, 11 regret, 12 low, 13 one, 14 first -/
def b__law_right : Rho → Out :=
  (sSeq (sSet 5 (eCall 4 m__law_uses (aCons (eVar 1) (aCons (eVar 2) (aCons (eVar 3) (aCons (eVar 4) aNil))))))
  (sSeq (sSet 6 (eComp [7] (iRg rng1D (aCons (eN lenD (aCons (eVar 1) aNil)) aNil)) (gN 7) bYes (eCall 4 m__law_worst (aCons (eVar 1) (aCons (eVar 7) (aCons (eVar 2) (aCons (eVar 5) aNil)))))))
  (sKeep 0 8
  (sSeq (sFor (gN 7) (iRg rng1D (aCons (eN lenD (aCons (eVar 1) aNil)) aNil)) (sSeq (sSet 9 (eCall 5 m_worst_regret (aCons (eVar 0) (aCons (eVar 7) (aCons (eVar 2) (aCons (eVar 3) (aCons (eVar 4) aNil)))))))
    (sSeq (sIf (bOr (bNot (bT (eCall 1 m__law_pair (aCons (eVar 9) aNil)))) (bE (eB2 neD (eVar 9) (eB2 ixD (eVar 6) (eVar 7))))) (sRet (eC (.bl false))) sNil)
    (sFor (gN 10) (iNew (eLst (aCons (eDup (eVar 3)) (aCons (eDup (eVar 4)) (aCons (eDup (eB2 ixD (eVar 5) (eB2 fdivD (eN lenD (aCons (eVar 5) aNil)) (eC (.int 2))))) aNil))))) (sSeq (sSet 11 (eCall 4 m_regret_of (aCons (eVar 0) (aCons (eVar 7) (aCons (eVar 2) (aCons (eVar 10) aNil))))))
      (sIf (bOr (bNot (bT (eCall 1 m__law_is_whole (aCons (eVar 11) aNil)))) (bE (eB2 neD (eVar 11) (eCall 4 m__law_regret (aCons (eVar 1) (aCons (eVar 7) (aCons (eVar 2) (aCons (eVar 10) aNil)))))))) (sRet (eC (.bl false))) sNil))))))
  (sSeq (sSet 9 (eCall 4 m_least_regret (aCons (eVar 0) (aCons (eVar 2) (aCons (eVar 3) (aCons (eVar 4) aNil))))))
  (sSeq (sSet 12 (eN min1D (aCons (eComp [13] (iAny (eVar 6)) (gN 13) bYes (eDup (eB2 ixD (eVar 13) (eC (.int 0))))) aNil)))
  (sSeq (sSet 14 (eDup (eB2 ixD (eComp [7] (iRg rng1D (aCons (eN lenD (aCons (eVar 1) aNil)) aNil)) (gN 7) (bE (eB2 eqD (eB2 ixD (eB2 ixD (eVar 6) (eVar 7)) (eC (.int 0))) (eVar 12))) (eDup (eVar 7))) (eC (.int 0)))))
  (sRet (eAnd (eCall 1 m__law_pair (aCons (eVar 9) aNil)) (eAnd (eB2 eqD (eVar 9) (eTup (aCons (eVar 14) (aCons (eVar 12) aNil)))) (eC (.bl true))))))))))))
def m__law_right : List D → Res D := runF b__law_right 10
/-! law: 0 script, 1 row, 2 wide, 3 plans, 4 tariffs, 5 one, 6 days, 7 least, 8 greatest, 9 steps, 10 kind -/
def b_law : Rho → Out :=
  (sSeq (sSet 1 (eCall 2 m__law_row (aCons (eCall 2 m__law_cell (aCons (eVar 0) (aCons (eC (.int 0)) aNil))) (aCons (eC (.int 120)) aNil))))
  (sSeq (sSet 2 (eCall 3 m__law_at (aCons (eVar 1) (aCons (eC (.int 0)) (aCons (eC (.int 2)) aNil)))))
  (sSeq (sSet 3 (eCall 4 m__law_plans (aCons (eCut (eVar 1) (oSome (eC (.int 1))) oNone) (aCons (eB2 addD (eCall 3 m__law_at (aCons (eVar 1) (aCons (eC (.int 100)) (aCons (eC (.int 4)) aNil)))) (eC (.int 1))) (aCons (eC (.int 3)) (aCons (eVar 2) aNil))))))
  (sSeq (sIf (bE (eB2 eqD (eCall 3 m__law_at (aCons (eVar 1) (aCons (eC (.int 101)) (aCons (eC (.int 8)) aNil)))) (eC (.int 3)))) (sSet 3 (eCall 4 m__law_plans (aCons (eCut (eVar 1) (oSome (eC (.int 1))) oNone) (aCons (eC (.int 8)) (aCons (eC (.int 1)) (aCons (eVar 2) aNil)))))) sNil)
  (sSeq (sSet 4 (eComp [5] (iAny (eVar 3)) (gN 5) bYes (eMake "Tariff" 2 m_Tariff___init__ (aCons (eB2 ixD (eVar 5) (eC (.int 0))) (aCons (eB2 ixD (eVar 5) (eC (.int 1))) aNil)))))
  (sSeq (sSet 6 (eDup (eB2 ixD (eTmp (aCons (eC (.int 1)) (aCons (eC (.int 2)) (aCons (eC (.int 400)) (aCons (eB2 addD (eCall 3 m__law_at (aCons (eVar 1) (aCons (eC (.int 102)) (aCons (eC (.int 400)) aNil)))) (eC (.int 1))) aNil))))) (eCall 3 m__law_at (aCons (eVar 1) (aCons (eC (.int 103)) (aCons (eC (.int 4)) aNil)))))))
  (sSeq (sSet 7 (eCall 3 m__law_at (aCons (eVar 1) (aCons (eC (.int 104)) (aCons (eC (.int 61)) aNil)))))
  (sSeq (sSet 8 (eB2 addD (eVar 7) (eCall 3 m__law_at (aCons (eVar 1) (aCons (eC (.int 105)) (aCons (eC (.int 61)) aNil))))))
  (sSeq (sSet 9 (eDup (eB2 ixD (eB2 ixD (eVar 3) (eCall 3 m__law_at (aCons (eVar 1) (aCons (eC (.int 106)) (aCons (eN lenD (aCons (eVar 3) aNil)) aNil))))) (eC (.int 1)))))
  (sSeq (sSet 10 (eCall 3 m__law_at (aCons (eVar 1) (aCons (eC (.int 107)) (aCons (eC (.int 3)) aNil)))))
  (sSeq (sIf (bE (eB2 eqD (eVar 10) (eC (.int 1)))) (sSeq (sSet 7 (eN max2D (aCons (eC (.int 0)) (aCons (eB2 subD (eB2 addD (eB2 mulD (eB2 ixD (eB2 ixD (eVar 9) (eU1 negD (eC (.int 1)))) (eC (.int 0))) (eVar 6)) (eCall 3 m__law_at (aCons (eVar 1) (aCons (eC (.int 108)) (aCons (eC (.int 3)) aNil))))) (eC (.int 1))) aNil))))
    (sSet 8 (eB2 addD (eVar 7) (eB2 mulD (eCall 3 m__law_at (aCons (eVar 1) (aCons (eC (.int 109)) (aCons (eC (.int 500000)) aNil)))) (eC (.int 1000)))))) sNil)
  (sSeq (sIf (bE (eB2 eqD (eVar 10) (eC (.int 2)))) (sSeq (sSet 7 (eN max2D (aCons (eC (.int 0)) (aCons (eB2 subD (eB2 mulD (eB2 ixD (eB2 ixD (eVar 9) (eCall 3 m__law_at (aCons (eVar 1) (aCons (eC (.int 108)) (aCons (eN lenD (aCons (eVar 9) aNil)) aNil))))) (eC (.int 0))) (eVar 6)) (eCall 3 m__law_at (aCons (eVar 1) (aCons (eC (.int 109)) (aCons (eC (.int 31)) aNil))))) aNil))))
    (sSet 8 (eB2 addD (eVar 7) (eCall 3 m__law_at (aCons (eVar 1) (aCons (eC (.int 110)) (aCons (eC (.int 61)) aNil))))))) sNil)
  (sSeq (sIf (bOr (bNot (bT (eCall 5 m__law_right (aCons (eVar 4) (aCons (eVar 3) (aCons (eVar 6) (aCons (eVar 7) (aCons (eVar 8) aNil)))))))) (bNot (bT (eCall 5 m__law_right (aCons (eVar 4) (aCons (eVar 3) (aCons (eC (.int 1)) (aCons (eVar 7) (aCons (eVar 7) aNil))))))))) (sRet (eC (.bl false))) sNil)
  (sSeq (sIf (bOr (bNot (bT (eCall 5 m__law_right (aCons (eCut (eVar 4) oNone (oSome (eC (.int 1)))) (aCons (eCut (eVar 3) oNone (oSome (eC (.int 1)))) (aCons (eVar 6) (aCons (eC (.int 0)) (aCons (eC (.int 1000000000)) aNil)))))))) (bNot (bT (eCall 5 m__law_right (aCons (eVar 4) (aCons (eVar 3) (aCons (eVar 6) (aCons (eC (.int 0)) (aCons (eVar 8) aNil))))))))) (sRet (eC (.bl false))) sNil)
  (sFrz 4 (sRet (eCall 2 m__law_refused (aCons (eCut (eVar 1) (oSome (eC (.int 111))) (oSome (eC (.int 113)))) (aCons (eVar 4) aNil)))))))))))))))))))
def m_law : List D → Res D := runF b_law 10
end K47
namespace K47
open PySem L2 DH
def t__law_row (cell_ : Int) (many_ : Int) : Res (List Int) :=
  (letR ([] : List Int) fun row_ => (if (decide ((1000000000000000000 : Int) ≤ cell_)) = true then (((rg1R many_).bind fun l28 => forN (fun q26 (s25 : Int × (List Int)) => (((appR s25.2 (s25.1 % (1000000 : Int))).bind fun row_3 => (letR (s25.1 / (1000000 : Int)) fun cell_3 => .ok (cell_3, row_3))) : Res (Int × (List Int)))) l28 (cell_, row_)).bind fun s29 => .ok s29.2) else (((rg1R many_).bind fun l50 => forN (fun q41 (s40 : (List Int)) => ((letR ((((cell_ * (48271 : Int)) + (q41 * (69621 : Int))) + (4177 : Int)) % (2147483647 : Int)) fun mixed_2 => (((((((mulR q41 q41).bind fun v43 => .ok (v43 * (7919 : Int))).bind fun v44 => .ok ((mixed_2 * (16807 : Int)) + v44)).bind fun v45 => .ok (v45 + (271 : Int))).bind fun v47 => .ok v47).bind fun v48 => .ok (v48 % (2147483629 : Int))).bind fun v49 => (appR s40 v49).bind fun row_5 => .ok row_5)) : Res ((List Int)))) l50 row_).bind fun s51 => .ok s51)))
theorem bl__law_row (cell_ : Int) (many_ : Int) : Bl pT [Sl rI cell_, Sl rI many_, J, J, J] (phF (rL .own rI)) (t__law_row cell_ many_) b__law_row := by
  unfold t__law_row b__law_row
  exact (b_set (t_lst (ka_n (k_lst (r := rI) .nil))) (fun _ => (.s (.s .z))) (fun row_ => (b_ifx exF (t_bE (t_pp (t_var .z) (t_pp t_int t_int (o_powl (v := 1000000000000000000) (by decide) (by decide))) o_ge)) (b_seqN (b_forN (Q := (fun s25 : Int × (List Int) => [Sl rI s25.1, Sl rI many_, Sl (rL .own rI) s25.2, J, J])) (fun _ _ => trivial) (t_rg1p (t_var (.s .z))) (.s (.s (.s (.j (.j .n))))) (fun q26 s25 => (g_n (.s (.s (.s .z))))) (fun q26 s25 => (b_appp (.s (.s .z)) (t_pp (t_N (ka_p (t_var .z) (fun h27 => (ka_n (k_intI h27))))) t_int (o_modl (by decide))) (fun _ => (.s (.s .z))) (fun row_3 => (bl_last (b_set (t_pp (t_var .z) t_int (o_fdivl (by decide))) (fun _ => .z) (fun cell_3 => (b_nilN (.s (.s (.s (.j (.j .n))))))))))))) (fun s29 => (b_retV (.s (.s .z))))) (b_seqN (b_forN (Q := (fun s40 : (List Int) => [Sl rI cell_, Sl rI many_, Sl (rL .own rI) s40, J, J])) (fun _ _ => trivial) (t_rg1p (t_var (.s .z))) (.s (.s (.s (.j (.j .n))))) (fun q41 s40 => (g_n (.s (.s (.s .z))))) (fun q41 s40 => (b_set (t_pp (t_N (ka_p (t_pp (t_pp (t_pp (t_var .z) t_int (o_mulr (by decide))) (t_pp (t_var (.s (.s (.s .z)))) t_int (o_mulr (by decide))) o_add) t_int o_add) (fun h42 => (ka_n (k_intI h42))))) t_int (o_modl (by decide))) (fun _ => (.s (.s (.s (.s .z))))) (fun mixed_2 => (bl_last (b_app (.s (.s .z)) (fun _ _ => trivial) (t_rp (t_N (ka_r (t_rp (t_pr (t_pp (t_var (.s (.s (.s (.s .z))))) t_int (o_mulr (by decide))) (t_rp (t_pp (t_var (.s (.s (.s .z)))) (t_var (.s (.s (.s .z)))) o_mul) t_int (fun _ => (o_mulr (by decide)))) (fun _ => o_add)) t_int (fun _ => o_add)) (fun v47 {_} h46 => (ka_n (k_intI h46))))) t_int (fun _ => (o_modl (by decide)))) (fun _ => (.s (.s .z))) (fun row_5 => (b_nilN (.s (.s (.s (.j (.j .n))))))))))))) (fun s51 => (b_retV (.s (.s .z))))))))
theorem tok__law_row {cell_ : Int} {many_ : Int} {d0 d1 : D} (h0 : rI cell_ d0) (h1 : rI many_ d1) : RelE (rL .own rI) (t__law_row cell_ many_) (m__law_row [d0, d1]) := f_ret (n := 3) (ds := [d0, d1]) (bl__law_row cell_ many_) (.cons (sl h0) (.cons (sl h1) (Env.nones 3)))
def t__law_at (row_ : (List Int)) (at_ : Int) (many_ : Int) : Res Int :=
  (((ixR row_ at_).bind fun v56 => .ok v56).bind fun v57 => modR v57 many_)
theorem bl__law_at (row_ : (List Int)) (at_ : Int) (many_ : Int) : Bl pT [Sl (rL .ro rI) row_, Sl rI at_, Sl rI many_] (phF rI) (t__law_at row_ at_ many_) b__law_at := by
  unfold t__law_at b__law_at
  exact (b_ret (fun _ _ => trivial) (t_rp (t_N (ka_r (t_pp (t_var .z) (t_var (.s .z)) o_ixL) (fun v56 {_} h55 => (ka_n (k_intI h55))))) (t_var (.s (.s .z))) (fun _ => o_mod)))
theorem tok__law_at {row_ : (List Int)} {at_ : Int} {many_ : Int} {d0 d1 d2 : D} (h0 : (rL .ro rI) row_ d0) (h1 : rI at_ d1) (h2 : rI many_ d2) : RelE rI (t__law_at row_ at_ many_) (m__law_at [d0, d1, d2]) := f_ret (n := 0) (ds := [d0, d1, d2]) (bl__law_at row_ at_ many_) (.cons (sl h0) (.cons (sl h1) (.cons (sl h2) (Env.nones 0))))
def t__law_steps (row_ : (List Int)) (at_ : Int) (count_ : Int) (wide_ : Int) (mode_ : Int) : Res (List (Int × Int)) :=
  (letR ([(0 : Int)] : List Int) fun units_ => (letR ([] : List Int) fun prices_ => (((rg1R count_).bind fun l180 => forN (fun q136 (s135 : (List Int) × (List Int)) => ((((if (decide ((0 : Int) < q136)) = true then (((ixR s135.1 (-(1 : Int))).bind fun v152 => .ok ((((1000001 : Int) - count_) + q136) - v152)).bind fun room_3 => ((((ixR s135.1 (-(1 : Int))).bind fun v153 => .ok (v153 + (1 : Int))).bind fun v163 => (((ixR ([(6 : Int), (1000000 : Int)] : List Int) wide_).bind fun v158 => .ok (min room_3 v158)).bind fun v162 => t__law_at row_ (at_ + ((3 : Int) * q136)) v162).bind fun v164 => .ok (v163 + v164)).bind fun v165 => (appR s135.1 v165).bind fun units_4 => .ok units_4)) else .ok s135.1) : Res ((List Int))).bind fun s151 => (((ixR ([(10 : Int), (1000001 : Int)] : List Int) wide_).bind fun v171 => t__law_at row_ ((at_ + ((3 : Int) * q136)) + (1 : Int)) v171).bind fun v179 => (appR s135.2 v179).bind fun prices_4 => ((if (decide ((0 : Int) < q136)) = true then ((t__law_at row_ ((at_ + ((3 : Int) * q136)) + (2 : Int)) (4 : Int)).bind fun v175 => .ok (decide (v175 = (1 : Int)))) else (.ok false : Res Bool)).bind fun b178 => if b178 = true then ((ixR prices_4 (q136 - (1 : Int))).bind fun v176 => (.ok q136 : Res Int).bind fun v177 => (setR prices_4 v177 v176).bind fun prices_5 => .ok (s151, prices_5)) else .ok (s151, prices_4)))) : Res ((List Int) × (List Int)))) l180 (units_, prices_)).bind fun s181 => (((if (decide (mode_ = (1 : Int))) = true then (letR (sortI s181.2) fun prices_7 => .ok prices_7) else .ok s181.2) : Res ((List Int))).bind fun s183 => (((if (decide (mode_ = (2 : Int))) = true then (letR ((sortI s183).reverse) fun prices_9 => .ok prices_9) else .ok s183) : Res ((List Int))).bind fun s185 => ((rg1R count_).bind fun v191 => (mapR (fun q186 => ((ixR s181.1 q186).bind fun v188 => (ixR s185 q186).bind fun v190 => .ok (v188, v190))) v191).bind lenG))))))
theorem bl__law_steps (row_ : (List Int)) (at_ : Int) (count_ : Int) (wide_ : Int) (mode_ : Int) : Bl pT [Sl (rL .ro rI) row_, Sl rI at_, Sl rI count_, Sl rI wide_, Sl rI mode_, J, J, J, J] (phF (rL .own (rT (rsC rI (rs1 rI))))) (t__law_steps row_ at_ count_ wide_ mode_) b__law_steps := by
  unfold t__law_steps b__law_steps
  exact (b_set (t_lst (ka_p t_int (fun h103 => (ka_n (k_lst (r := rI) (.cons h103 .nil)))))) (fun _ => (.s (.s (.s (.s (.s .z)))))) (fun units_ => (b_set (t_lst (ka_n (k_lst (r := rI) .nil))) (fun _ => (.s (.s (.s (.s (.s (.s .z))))))) (fun prices_ => (b_seqN (b_forN (Q := (fun s135 : (List Int) × (List Int) => [Sl (rL .ro rI) row_, Sl rI at_, Sl rI count_, Sl rI wide_, Sl rI mode_, Sl (rL .own rI) s135.1, Sl (rL .own rI) s135.2, J, J])) (fun _ _ => trivial) (t_rg1p (t_var (.s (.s .z)))) (.s (.s (.s (.s (.s (.s (.s (.j (.j .n))))))))) (fun q136 s135 => (g_n (.s (.s (.s (.s (.s (.s (.s .z))))))))) (fun q136 s135 => (b_seqN (Q := (fun s151 : (List Int) => [Sl (rL .ro rI) row_, Sl rI at_, Sl rI count_, Sl rI wide_, Sl rI mode_, Sl (rL .own rI) s151, Sl (rL .own rI) s135.2, Sl rI q136, J])) (b_if (t_bE (t_pp (t_var (.s (.s (.s (.s (.s (.s (.s .z)))))))) t_int o_gt)) (b_setr (fun _ _ => trivial) (t_pr (t_pp (t_pp t_int (t_var (.s (.s .z))) o_sub) (t_var (.s (.s (.s (.s (.s (.s (.s .z)))))))) o_add) (t_pp (t_var (.s (.s (.s (.s (.s .z)))))) (t_up t_int o_neg) o_ixL) (fun _ => o_sub)) (fun _ => (.s (.s (.s (.s (.s (.s (.s (.s .z))))))))) (fun room_3 => (bl_last (b_app (.s (.s (.s (.s (.s .z))))) (fun _ _ => trivial) (t_rr (t_rp (t_pp (t_var (.s (.s (.s (.s (.s .z)))))) (t_up t_int o_neg) o_ixL) t_int (fun _ => o_add)) (t_call (ka_p (t_var .z) (fun h159 => (ka_p (t_pp (t_var (.s .z)) (t_pp t_int (t_var (.s (.s (.s (.s (.s (.s (.s .z)))))))) (o_mull (by decide))) o_add) (fun h160 => (ka_r (t_N (ka_p (t_var (.s (.s (.s (.s (.s (.s (.s (.s .z))))))))) (fun h156 => (ka_r (t_pp (t_tmp (ka_p t_int (fun h154 => (ka_p t_int (fun h155 => (ka_n (k_tmp (r := rI) (.cons h154 (.cons h155 .nil))))))))) (t_var (.s (.s (.s .z)))) o_ixL) (fun v158 {_} h157 => (ka_n (k_min2 h156 h157))))))) (fun v162 {_} h161 => (ka_n (call_of (ag h159 (ag h160 (ag h161 .n))) (tok__law_at (lg h159) (lg h160) (lg h161))))))))))) (fun _ _ => o_add)) (fun _ => (.s (.s (.s (.s (.s .z)))))) (fun units_4 => (b_nilN (.s (.s (.s (.s (.s (.s (.s (.s (.j .n))))))))))))))) (b_nilN (.s (.s (.s (.s (.s (.s (.s (.s (.j .n))))))))))) (fun s151 => (b_app (.s (.s (.s (.s (.s (.s .z)))))) (fun _ _ => trivial) (t_call (ka_p (t_var .z) (fun h168 => (ka_p (t_pp (t_pp (t_var (.s .z)) (t_pp t_int (t_var (.s (.s (.s (.s (.s (.s (.s .z)))))))) (o_mull (by decide))) o_add) t_int o_add) (fun h169 => (ka_r (t_pp (t_tmp (ka_p t_int (fun h166 => (ka_p t_int (fun h167 => (ka_n (k_tmp (r := rI) (.cons h166 (.cons h167 .nil))))))))) (t_var (.s (.s (.s .z)))) o_ixL) (fun v171 {_} h170 => (ka_n (call_of (ag h168 (ag h169 (ag h170 .n))) (tok__law_at (lg h168) (lg h169) (lg h170))))))))))) (fun _ => (.s (.s (.s (.s (.s (.s .z))))))) (fun prices_4 => (b_ifr (fun _ _ => trivial) (t_andp (t_bE (t_pp (t_var (.s (.s (.s (.s (.s (.s (.s .z)))))))) t_int o_gt)) (t_bE (t_rp (t_call (ka_p (t_var .z) (fun h172 => (ka_p (t_pp (t_pp (t_var (.s .z)) (t_pp t_int (t_var (.s (.s (.s (.s (.s (.s (.s .z)))))))) (o_mull (by decide))) o_add) t_int o_add) (fun h173 => (ka_p t_int (fun h174 => (ka_n (call_of (ag h172 (ag h173 (ag h174 .n))) (tok__law_at (lg h172) (lg h173) (lg h174))))))))))) t_int (fun _ => o_eqI)))) (bl_last (b_ix (.s (.s (.s (.s (.s (.s .z)))))) (fun _ _ => trivial) (t_pp (t_var (.s (.s (.s (.s (.s (.s .z))))))) (t_pp (t_var (.s (.s (.s (.s (.s (.s (.s .z)))))))) t_int o_sub) o_ixL) (t_var (.s (.s (.s (.s (.s (.s (.s .z)))))))) (fun _ => (.s (.s (.s (.s (.s (.s .z))))))) (fun prices_5 => (b_nilN (.s (.s (.s (.s (.s (.s (.s (.j (.j .n))))))))))))) (b_nilN (.s (.s (.s (.s (.s (.s (.s (.j (.j .n))))))))))))))))) (fun s181 => (b_seqN (Q := (fun s183 : (List Int) => [Sl (rL .ro rI) row_, Sl rI at_, Sl rI count_, Sl rI wide_, Sl rI mode_, Sl (rL .own rI) s181.1, Sl (rL .own rI) s183, J, J])) (b_if (t_bE (t_pp (t_var (.s (.s (.s (.s .z))))) t_int o_eqI)) (bl_last (b_set (t_N (ka_p (t_var (.s (.s (.s (.s (.s (.s .z))))))) (fun h184 => (ka_n (k_sorted h184))))) (fun _ => (.s (.s (.s (.s (.s (.s .z))))))) (fun prices_7 => (b_nilN (.s (.s (.s (.s (.s (.s (.s (.j (.j .n))))))))))))) (b_nilN (.s (.s (.s (.s (.s (.s (.s (.j (.j .n))))))))))) (fun s183 => (b_seqN (Q := (fun s185 : (List Int) => [Sl (rL .ro rI) row_, Sl rI at_, Sl rI count_, Sl rI wide_, Sl rI mode_, Sl (rL .own rI) s181.1, Sl (rL .own rI) s185, J, J])) (b_if (t_bE (t_pp (t_var (.s (.s (.s (.s .z))))) t_int o_eqI)) (bl_last (b_set (t_sortRev (t_var (.s (.s (.s (.s (.s (.s .z)))))))) (fun _ => (.s (.s (.s (.s (.s (.s .z))))))) (fun prices_9 => (b_nilN (.s (.s (.s (.s (.s (.s (.s (.j (.j .n))))))))))))) (b_nilN (.s (.s (.s (.s (.s (.s (.s (.j (.j .n))))))))))) (fun s185 => (b_ret (fun _ _ => trivial) (t_compR (t_rg1p (t_var (.s (.s .z)))) (.c .n (.s (.s (.s (.s (.s (.s (.s .z)))))))) (fun q186 => (g_n (.s (.s (.s (.s (.s (.s (.s .z))))))))) (fun q186 => (t_tup (ka_r (t_dup (t_pp (t_var (.s (.s (.s (.s (.s .z)))))) (t_var (.s (.s (.s (.s (.s (.s (.s .z)))))))) o_ixL)) (fun v188 {_} h187 => (ka_r (t_dup (t_pp (t_var (.s (.s (.s (.s (.s (.s .z))))))) (t_var (.s (.s (.s (.s (.s (.s (.s .z)))))))) o_ixL)) (fun v190 {_} h189 => (ka_n (k_tup (s_c h187 (s_1 h189))))))))))))))))))))))
theorem tok__law_steps {row_ : (List Int)} {at_ : Int} {count_ : Int} {wide_ : Int} {mode_ : Int} {d0 d1 d2 d3 d4 : D} (h0 : (rL .ro rI) row_ d0) (h1 : rI at_ d1) (h2 : rI count_ d2) (h3 : rI wide_ d3) (h4 : rI mode_ d4) : RelE (rL .own (rT (rsC rI (rs1 rI)))) (t__law_steps row_ at_ count_ wide_ mode_) (m__law_steps [d0, d1, d2, d3, d4]) := f_ret (n := 4) (ds := [d0, d1, d2, d3, d4]) (bl__law_steps row_ at_ count_ wide_ mode_) (.cons (sl h0) (.cons (sl h1) (.cons (sl h2) (.cons (sl h3) (.cons (sl h4) (Env.nones 4))))))
def t__law_plans (row_ : (List Int)) (many_ : Int) (most_ : Int) (wide_ : Int) : Res (List (Int × (List (Int × Int)))) :=
  (letR ([] : List (Int × (List (Int × Int)))) fun plans_ => (((rg1R many_).bind fun l430 => forN (fun q327 (s326 : (List (Int × (List (Int × Int))))) => ((letR ((12 : Int) * q327) fun at_2 => (((ixR ([(30 : Int), (1000001 : Int)] : List Int) wide_).bind fun v333 => t__law_at row_ at_2 v333).bind fun standing_3 => ((((t__law_at row_ (at_2 + (10 : Int)) most_).bind fun v337 => .ok (v337 + (1 : Int))).bind fun v341 => t__law_steps row_ (at_2 + (1 : Int)) v341 wide_ (0 : Int)).bind fun steps_4 => ((((if (decide ((0 : Int) < q327)) = true then ((t__law_at row_ (at_2 + (11 : Int)) (3 : Int)).bind fun v347 => .ok (decide ((0 : Int) < v347))) else (.ok false : Res Bool)).bind fun b427 => if b427 = true then (((((((ixR s326 (q327 - (1 : Int))).bind fun v388 => .ok v388.1).bind fun v392 => (t__law_at row_ at_2 (41 : Int)).bind fun v393 => .ok (v392 + v393)).bind fun v394 => .ok (v394 - (20 : Int))).bind fun v397 => .ok (min (1000000 : Int) v397)).bind fun v400 => .ok (max (0 : Int) v400)).bind fun standing_5 => ((((ixR s326 (q327 - (1 : Int))).bind fun v401 => .ok v401.2).bind fun v403 => .ok v403).bind fun steps_7 => ((t__law_at row_ (at_2 + (1 : Int)) (steps_7.length : Int)).bind fun spot_3 => (((((((ixR steps_7 spot_3).bind fun v408 => .ok v408.2).bind fun v412 => (t__law_at row_ (at_2 + (2 : Int)) (5 : Int)).bind fun v413 => .ok (v412 + v413)).bind fun v414 => .ok (v414 - (2 : Int))).bind fun v417 => .ok (min (1000000 : Int) v417)).bind fun v420 => .ok (max (0 : Int) v420)).bind fun price_3 => ((((ixR steps_7 spot_3).bind fun v421 => .ok v421.1).bind fun v423 => .ok (v423, price_3)).bind fun v425 => (.ok spot_3 : Res Int).bind fun v426 => (setR steps_7 v426 v425).bind fun steps_8 => .ok (standing_5, steps_8)))))) else .ok (standing_3, steps_4)) : Res (Int × (List (Int × Int)))).bind fun s387 => ((appR s326 (s387.1, s387.2)).bind fun plans_3 => .ok plans_3))))) : Res ((List (Int × (List (Int × Int))))))) l430 plans_).bind fun s431 => .ok s431))
theorem bl__law_plans (row_ : (List Int)) (many_ : Int) (most_ : Int) (wide_ : Int) : Bl pT [Sl (rL .ro rI) row_, Sl rI many_, Sl rI most_, Sl rI wide_, J, J, J, J, J, J, J] (phF (rL .own (rT (rsC rI (rs1 (rL .frz (rT (rsC rI (rs1 rI))))))))) (t__law_plans row_ many_ most_ wide_) b__law_plans := by
  unfold t__law_plans b__law_plans
  exact (b_set (t_lst (ka_n (k_lst (r := (rT (rsC rI (rs1 (rL .frz (rT (rsC rI (rs1 rI)))))))) .nil))) (fun _ => (.s (.s (.s (.s .z))))) (fun plans_ => (b_seqN (b_forN (Q := (fun s326 : (List (Int × (List (Int × Int)))) => [Sl (rL .ro rI) row_, Sl rI many_, Sl rI most_, Sl rI wide_, Sl (rL .own (rT (rsC rI (rs1 (rL .frz (rT (rsC rI (rs1 rI)))))))) s326, J, J, J, J, J, J])) (fun _ _ => trivial) (t_rg1p (t_var (.s .z))) (.s (.s (.s (.s (.s (.j (.j (.j (.j (.j (.j .n))))))))))) (fun q327 s326 => (g_n (.s (.s (.s (.s (.s .z))))))) (fun q327 s326 => (b_set (t_pp t_int (t_var (.s (.s (.s (.s (.s .z)))))) (o_mull (by decide))) (fun _ => (.s (.s (.s (.s (.s (.s .z))))))) (fun at_2 => (b_setr (fun _ _ => trivial) (t_call (ka_p (t_var .z) (fun h330 => (ka_p (t_var (.s (.s (.s (.s (.s (.s .z))))))) (fun h331 => (ka_r (t_pp (t_tmp (ka_p t_int (fun h328 => (ka_p t_int (fun h329 => (ka_n (k_tmp (r := rI) (.cons h328 (.cons h329 .nil))))))))) (t_var (.s (.s (.s .z)))) o_ixL) (fun v333 {_} h332 => (ka_n (call_of (ag h330 (ag h331 (ag h332 .n))) (tok__law_at (lg h330) (lg h331) (lg h332))))))))))) (fun _ => (.s (.s (.s (.s (.s (.s (.s .z)))))))) (fun standing_3 => (b_setr (fun _ _ => trivial) (t_call (ka_p (t_var .z) (fun h338 => (ka_p (t_pp (t_var (.s (.s (.s (.s (.s (.s .z))))))) t_int o_add) (fun h339 => (ka_r (t_rp (t_call (ka_p (t_var .z) (fun h334 => (ka_p (t_pp (t_var (.s (.s (.s (.s (.s (.s .z))))))) t_int o_add) (fun h335 => (ka_p (t_var (.s (.s .z))) (fun h336 => (ka_n (call_of (ag h334 (ag h335 (ag h336 .n))) (tok__law_at (lg h334) (lg h335) (lg h336))))))))))) t_int (fun _ => o_add)) (fun v341 {_} h340 => (ka_p (t_var (.s (.s (.s .z)))) (fun h342 => (ka_p t_int (fun h343 => (ka_n (call_of (ag h338 (ag h339 (ag h340 (ag h342 (ag h343 .n))))) (tok__law_steps (lg h338) (lg h339) (lg h340) (lg h342) (lg h343))))))))))))))) (fun _ => (.s (.s (.s (.s (.s (.s (.s (.s .z))))))))) (fun steps_4 => (b_seqN (Q := (fun s387 : Int × (List (Int × Int)) => [Sl (rL .ro rI) row_, Sl rI many_, Sl rI most_, Sl rI wide_, Sl (rL .own (rT (rsC rI (rs1 (rL .frz (rT (rsC rI (rs1 rI)))))))) s326, Sl rI q327, Sl rI at_2, Sl rI s387.1, Sl (rL .own (rT (rsC rI (rs1 rI)))) s387.2, J, J])) (b_ifr (fun _ _ => trivial) (t_andp (t_bE (t_pp (t_var (.s (.s (.s (.s (.s .z)))))) t_int o_gt)) (t_bE (t_rp (t_call (ka_p (t_var .z) (fun h344 => (ka_p (t_pp (t_var (.s (.s (.s (.s (.s (.s .z))))))) t_int o_add) (fun h345 => (ka_p t_int (fun h346 => (ka_n (call_of (ag h344 (ag h345 (ag h346 .n))) (tok__law_at (lg h344) (lg h345) (lg h346))))))))))) t_int (fun _ => o_gt)))) (b_setr (fun _ _ => trivial) (t_N (ka_p t_int (fun h398 => (ka_r (t_N (ka_p t_int (fun h395 => (ka_r (t_rp (t_rr (t_rp (t_pp (t_var (.s (.s (.s (.s .z))))) (t_pp (t_var (.s (.s (.s (.s (.s .z)))))) t_int o_sub) o_ixL) t_int (fun _ => o_t0)) (t_call (ka_p (t_var .z) (fun h389 => (ka_p (t_var (.s (.s (.s (.s (.s (.s .z))))))) (fun h390 => (ka_p t_int (fun h391 => (ka_n (call_of (ag h389 (ag h390 (ag h391 .n))) (tok__law_at (lg h389) (lg h390) (lg h391))))))))))) (fun _ _ => o_add)) t_int (fun _ => o_sub)) (fun v397 {_} h396 => (ka_n (k_min2 h395 h396))))))) (fun v400 {_} h399 => (ka_n (k_max2 h398 h399))))))) (fun _ => (.s (.s (.s (.s (.s (.s (.s .z)))))))) (fun standing_5 => (b_setr (fun _ _ => trivial) (t_N (ka_r (t_rp (t_pp (t_var (.s (.s (.s (.s .z))))) (t_pp (t_var (.s (.s (.s (.s (.s .z)))))) t_int o_sub) o_ixL) t_int (fun _ => o_t1e)) (fun v403 {_} h402 => (ka_n (k_listL h402))))) (fun _ => (.s (.s (.s (.s (.s (.s (.s (.s .z))))))))) (fun steps_7 => (b_setr (fun _ _ => trivial) (t_call (ka_p (t_var .z) (fun h405 => (ka_p (t_pp (t_var (.s (.s (.s (.s (.s (.s .z))))))) t_int o_add) (fun h406 => (ka_p (t_N (ka_p (t_var (.s (.s (.s (.s (.s (.s (.s (.s .z))))))))) (fun h404 => (ka_n (k_lenL h404))))) (fun h407 => (ka_n (call_of (ag h405 (ag h406 (ag h407 .n))) (tok__law_at (lg h405) (lg h406) (lg h407))))))))))) (fun _ => (.s (.s (.s (.s (.s (.s (.s (.s (.s .z)))))))))) (fun spot_3 => (b_setr (fun _ _ => trivial) (t_N (ka_p t_int (fun h418 => (ka_r (t_N (ka_p t_int (fun h415 => (ka_r (t_rp (t_rr (t_rp (t_pp (t_var (.s (.s (.s (.s (.s (.s (.s (.s .z))))))))) (t_var (.s (.s (.s (.s (.s (.s (.s (.s (.s .z)))))))))) o_ixL) t_int (fun _ => o_t1e)) (t_call (ka_p (t_var .z) (fun h409 => (ka_p (t_pp (t_var (.s (.s (.s (.s (.s (.s .z))))))) t_int o_add) (fun h410 => (ka_p t_int (fun h411 => (ka_n (call_of (ag h409 (ag h410 (ag h411 .n))) (tok__law_at (lg h409) (lg h410) (lg h411))))))))))) (fun _ _ => o_add)) t_int (fun _ => o_sub)) (fun v417 {_} h416 => (ka_n (k_min2 h415 h416))))))) (fun v420 {_} h419 => (ka_n (k_max2 h418 h419))))))) (fun _ => (.s (.s (.s (.s (.s (.s (.s (.s (.s (.s .z))))))))))) (fun price_3 => (bl_last (b_ix (.s (.s (.s (.s (.s (.s (.s (.s .z)))))))) (fun _ _ => trivial) (t_tup (ka_r (t_rp (t_pp (t_var (.s (.s (.s (.s (.s (.s (.s (.s .z))))))))) (t_var (.s (.s (.s (.s (.s (.s (.s (.s (.s .z)))))))))) o_ixL) t_int (fun _ => o_t0)) (fun v423 {_} h422 => (ka_p (t_var (.s (.s (.s (.s (.s (.s (.s (.s (.s (.s .z))))))))))) (fun h424 => (ka_n (k_tup (s_c h422 (s_1 h424))))))))) (t_var (.s (.s (.s (.s (.s (.s (.s (.s (.s .z)))))))))) (fun _ => (.s (.s (.s (.s (.s (.s (.s (.s .z))))))))) (fun steps_8 => (b_nilN (.s (.s (.s (.s (.s (.s (.s (.s (.s (.j (.j .n))))))))))))))))))))))) (b_nilN (.s (.s (.s (.s (.s (.s (.s (.s (.s (.j (.j .n))))))))))))) (fun s387 => (b_frz (r := (rL .own (rT (rsC rI (rs1 rI))))) (s := (rL .frz (rT (rsC rI (rs1 rI))))) (.s (.s (.s (.s (.s (.s (.s (.s .z)))))))) (.s (.s (.s (.s (.s (.s (.s (.s .z)))))))) (bl_last (b_appp (.s (.s (.s (.s .z)))) (t_tup (ka_p (t_dup (t_var (.s (.s (.s (.s (.s (.s (.s .z))))))))) (fun h428 => (ka_p (t_dup (t_var (.s (.s (.s (.s (.s (.s (.s (.s .z)))))))))) (fun h429 => (ka_n (k_tup (s_c h428 (s_1 h429))))))))) (fun _ => (.s (.s (.s (.s .z))))) (fun plans_3 => (b_nilN (.s (.s (.s (.s (.s (.j (.j (.j (.j (.j (.j .n)))))))))))))))))))))))))) (fun s431 => (b_retV (.s (.s (.s (.s .z)))))))))
theorem tok__law_plans {row_ : (List Int)} {many_ : Int} {most_ : Int} {wide_ : Int} {d0 d1 d2 d3 : D} (h0 : (rL .ro rI) row_ d0) (h1 : rI many_ d1) (h2 : rI most_ d2) (h3 : rI wide_ d3) : RelE (rL .own (rT (rsC rI (rs1 (rL .frz (rT (rsC rI (rs1 rI)))))))) (t__law_plans row_ many_ most_ wide_) (m__law_plans [d0, d1, d2, d3]) := f_ret (n := 7) (ds := [d0, d1, d2, d3]) (bl__law_plans row_ many_ most_ wide_) (.cons (sl h0) (.cons (sl h1) (.cons (sl h2) (.cons (sl h3) (Env.nones 7)))))

structure Tariff where
  standing_ : Int
  steps_ : (List (Int × Int))
  deriving DecidableEq
def F_Tariff (a : Tariff) : List (Str × (D → Prop)) := [("standing", rI a.standing_), ("steps", (rQ (rT (rsC rI (rs1 rI)))) a.steps_)]
abbrev r_Tariff : Rl Tariff := rIns "Tariff" F_Tariff
def t_check_tariffs (tariffs_ : (List Tariff)) : Res Unit :=
  (if (!(!tariffs_.isEmpty)) = true then .err "Empty" [] else (if (decide ((8 : Int) < (tariffs_.length : Int))) = true then (.err "TooMany" [("limit", V.int (8 : Int))]) else .ok ()))
theorem bl_check_tariffs (tariffs_ : (List Tariff)) : Bl pT [Sl (rL .ro r_Tariff) tariffs_] (phN (fun _ : Unit => [J])) (t_check_tariffs tariffs_) b_check_tariffs := by
  unfold t_check_tariffs b_check_tariffs
  exact (b_ifx exZ (t_not (t_bTL (t_var .z))) (b_raise0 (fun _ _ => trivial)) (b_if (t_bE (t_pp (t_N (ka_p (t_var .z) (fun h433 => (ka_n (k_lenL h433))))) t_int o_gt)) (b_raise1p (fun _ _ => trivial) t_int) (b_nilN (.j .n))))
theorem tok_check_tariffs {tariffs_ : (List Tariff)} {d0 : D} (h0 : (rL .ro r_Tariff) tariffs_ d0) : RelE rN (t_check_tariffs tariffs_) (m_check_tariffs [d0]) := f_non (n := 0) (ds := [d0]) (bl_check_tariffs tariffs_) (.cons (sl h0) (Env.nones 0))
def t_check_choice (tariffs_ : (List Tariff)) (k_ : Int) : Res Unit :=
  ((t_check_tariffs tariffs_).bind fun _u438 => (if (!((decide ((0 : Int) ≤ k_)) && (decide (k_ < (tariffs_.length : Int))))) = true then .err "OutOfRange" [] else .ok ()))
theorem bl_check_choice (tariffs_ : (List Tariff)) (k_ : Int) : Bl pT [Sl (rL .ro r_Tariff) tariffs_, Sl rI k_] (phN (fun _ : Unit => [J, J])) (t_check_choice tariffs_ k_) b_check_choice := by
  unfold t_check_choice b_check_choice
  exact (b_drop (fun _ _ => trivial) (t_call (ka_p (t_var .z) (fun h437 => (ka_n (call_of (ag h437 .n) (tok_check_tariffs (lg h437))))))) (fun _u438 => (b_if (t_not (t_bE (t_ch2 t_int (t_var (.s .z)) (t_N (ka_p (t_var .z) (fun h439 => (ka_n (k_lenL h439))))) o_le o_lt))) (b_raise0 (fun _ _ => trivial)) (b_nilN (.j (.j .n))))))
theorem tok_check_choice {tariffs_ : (List Tariff)} {k_ : Int} {d0 d1 : D} (h0 : (rL .ro r_Tariff) tariffs_ d0) (h1 : rI k_ d1) : RelE rN (t_check_choice tariffs_ k_) (m_check_choice [d0, d1]) := f_non (n := 0) (ds := [d0, d1]) (bl_check_choice tariffs_ k_) (.cons (sl h0) (.cons (sl h1) (Env.nones 0)))
def t_check_uses (days_ : Int) (least_ : Int) (greatest_ : Int) : Res Unit :=
  (if (!((decide ((1 : Int) ≤ days_)) && (decide (days_ ≤ (400 : Int))))) = true then .err "OutOfRange" [] else (if (!((decide ((0 : Int) ≤ least_)) && ((decide (least_ ≤ greatest_)) && (decide (greatest_ ≤ (1000000000 : Int)))))) = true then .err "OutOfRange" [] else .ok ()))
theorem bl_check_uses (days_ : Int) (least_ : Int) (greatest_ : Int) : Bl pT [Sl rI days_, Sl rI least_, Sl rI greatest_] (phN (fun _ : Unit => [J, J, J])) (t_check_uses days_ least_ greatest_) b_check_uses := by
  unfold t_check_uses b_check_uses
  exact (b_ifx exZ (t_not (t_bE (t_ch2 t_int (t_var .z) t_int o_le o_le))) (b_raise0 (fun _ _ => trivial)) (b_if (t_not (t_bE (t_ch3 t_int (t_var (.s .z)) (t_var (.s (.s .z))) t_int o_le o_le o_le))) (b_raise0 (fun _ _ => trivial)) (b_nilN (.j (.j (.j .n))))))
theorem tok_check_uses {days_ : Int} {least_ : Int} {greatest_ : Int} {d0 d1 d2 : D} (h0 : rI days_ d0) (h1 : rI least_ d1) (h2 : rI greatest_ d2) : RelE rN (t_check_uses days_ least_ greatest_) (m_check_uses [d0, d1, d2]) := f_non (n := 0) (ds := [d0, d1, d2]) (bl_check_uses days_ least_ greatest_) (.cons (sl h0) (.cons (sl h1) (.cons (sl h2) (Env.nones 0))))
def t_check_use (use_ : Int) (days_ : Int) : Res Unit :=
  (if (!((decide ((0 : Int) ≤ use_)) && (decide (use_ ≤ (1000000000 : Int))))) = true then .err "OutOfRange" [] else (if (!((decide ((1 : Int) ≤ days_)) && (decide (days_ ≤ (400 : Int))))) = true then .err "OutOfRange" [] else .ok ()))
theorem bl_check_use (use_ : Int) (days_ : Int) : Bl pT [Sl rI use_, Sl rI days_] (phN (fun _ : Unit => [J, J])) (t_check_use use_ days_) b_check_use := by
  unfold t_check_use b_check_use
  exact (b_ifx exZ (t_not (t_bE (t_ch2 t_int (t_var .z) t_int o_le o_le))) (b_raise0 (fun _ _ => trivial)) (b_if (t_not (t_bE (t_ch2 t_int (t_var (.s .z)) t_int o_le o_le))) (b_raise0 (fun _ _ => trivial)) (b_nilN (.j (.j .n)))))
theorem tok_check_use {use_ : Int} {days_ : Int} {d0 d1 : D} (h0 : rI use_ d0) (h1 : rI days_ d1) : RelE rN (t_check_use use_ days_) (m_check_use [d0, d1]) := f_non (n := 0) (ds := [d0, d1]) (bl_check_use use_ days_) (.cons (sl h0) (.cons (sl h1) (Env.nones 0)))
def t_Tariff_charge (self_ : Tariff) (use_ : Int) (days_ : Int) : Res Int :=
  ((t_check_use use_ days_).bind fun _u456 => ((mulR self_.standing_ days_).bind fun total_ => (letR (0 : Int) fun last_ => ((forN (fun q466 (s465 : Int × Int) => ((((((mulR q466.1 days_).bind fun v467 => .ok (use_ - v467)).bind fun v470 => .ok (max (0 : Int) v470)).bind fun v471 => mulR (q466.2 - s465.2) v471).bind fun v472 => letR (s465.1 + v472) fun total_3 => (letR q466.2 fun last_3 => .ok (total_3, last_3))) : Res (Int × Int))) self_.steps_ (total_, last_)).bind fun s473 => .ok s473.1))))
theorem bl_Tariff_charge (self_ : Tariff) (use_ : Int) (days_ : Int) : Bl pT [Sl r_Tariff self_, Sl rI use_, Sl rI days_, J, J, J, J] (phF rI) (t_Tariff_charge self_ use_ days_) b_Tariff_charge := by
  unfold t_Tariff_charge b_Tariff_charge
  exact (b_drop (fun _ _ => trivial) (t_call (ka_p (t_var (.s .z)) (fun h454 => (ka_p (t_var (.s (.s .z))) (fun h455 => (ka_n (call_of (ag h454 (ag h455 .n)) (tok_check_use (lg h454) (lg h455))))))))) (fun _u456 => (b_setr (fun _ _ => trivial) (t_pp (t_fld (t_var .z) rfl) (t_var (.s (.s .z))) o_mul) (fun _ => (.s (.s (.s .z)))) (fun total_ => (b_set t_int (fun _ => (.s (.s (.s (.s .z))))) (fun last_ => (b_seqN (b_forNp (Q := (fun s465 : Int × Int => [Sl r_Tariff self_, Sl rI use_, Sl rI days_, Sl rI s465.1, Sl rI s465.2, J, J])) (t_ofQ (t_fld (t_var .z) rfl)) (.s (.s (.s (.s (.s (.j (.j .n))))))) (fun q466 s465 => (g_t (g_c (g_n (.s (.s (.s (.s (.s .z)))))) (g_1 (g_n (.s (.s (.s (.s (.s (.s .z))))))))))) (fun q466 s465 => (b_aug (.s (.s (.s .z))) (fun _ _ => trivial) (t_pr (t_pp (t_var (.s (.s (.s (.s (.s (.s .z))))))) (t_var (.s (.s (.s (.s .z))))) o_sub) (t_N (ka_p t_int (fun h468 => (ka_r (t_pr (t_var (.s .z)) (t_pp (t_var (.s (.s (.s (.s (.s .z)))))) (t_var (.s (.s .z))) o_mul) (fun _ => o_sub)) (fun v470 {_} h469 => (ka_n (k_max2 h468 h469))))))) (fun _ => o_mul)) (fun _ => (.s (.s (.s .z)))) (fun total_3 => (bl_last (b_set (t_dup (t_var (.s (.s (.s (.s (.s (.s .z)))))))) (fun _ => (.s (.s (.s (.s .z))))) (fun last_3 => (b_nilN (.s (.s (.s (.s (.s (.j (.j .n))))))))))))))) (fun s473 => (b_retV (.s (.s (.s .z))))))))))))
theorem tok_Tariff_charge {self_ : Tariff} {use_ : Int} {days_ : Int} {d0 d1 d2 : D} (h0 : r_Tariff self_ d0) (h1 : rI use_ d1) (h2 : rI days_ d2) : RelE rI (t_Tariff_charge self_ use_ days_) (m_Tariff_charge [d0, d1, d2]) := f_ret (n := 4) (ds := [d0, d1, d2]) (bl_Tariff_charge self_ use_ days_) (.cons (sl h0) (.cons (sl h1) (.cons (sl h2) (Env.nones 4))))
def t_plain_regret (tariffs_ : (List Tariff)) (k_ : Int) (days_ : Int) (use_ : Int) : Res Int :=
  (((ixR tariffs_ k_).bind fun v487 => t_Tariff_charge v487 use_ days_).bind fun v496 => (((mapR (fun q490 => (t_Tariff_charge q490 use_ days_)) tariffs_).bind lenG).bind fun v495 => minT v495).bind fun v497 => .ok (v496 - v497))
theorem bl_plain_regret (tariffs_ : (List Tariff)) (k_ : Int) (days_ : Int) (use_ : Int) : Bl pT [Sl (rL .ro r_Tariff) tariffs_, Sl rI k_, Sl rI days_, Sl rI use_, J] (phF rI) (t_plain_regret tariffs_ k_ days_ use_) b_plain_regret := by
  unfold t_plain_regret b_plain_regret
  exact (b_ret (fun _ _ => trivial) (t_rr (t_methr (t_pp (t_var .z) (t_var (.s .z)) o_ixL) (fun _ => rfl) (fun v487 {_} h486 => (ka_p (t_var (.s (.s (.s .z)))) (fun h488 => (ka_p (t_var (.s (.s .z))) (fun h489 => (ka_n (call_of (ag h486 (ag h488 (ag h489 .n))) (tok_Tariff_charge (lg h486) (lg h488) (lg h489)))))))))) (t_N (ka_r (t_compRp (t_anL (t_var .z)) (.c .n (.s (.s (.s (.s .z))))) (fun q490 => (g_n (.s (.s (.s (.s .z)))))) (fun q490 => (t_meth (t_var (.s (.s (.s (.s .z))))) rfl (fun h491 => (ka_p (t_var (.s (.s (.s .z)))) (fun h492 => (ka_p (t_var (.s (.s .z))) (fun h493 => (ka_n (call_of (ag h491 (ag h492 (ag h493 .n))) (tok_Tariff_charge (lg h491) (lg h492) (lg h493)))))))))))) (fun v495 {_} h494 => (ka_n (k_min1 h494))))) (fun _ _ => o_sub)))
theorem tok_plain_regret {tariffs_ : (List Tariff)} {k_ : Int} {days_ : Int} {use_ : Int} {d0 d1 d2 d3 : D} (h0 : (rL .ro r_Tariff) tariffs_ d0) (h1 : rI k_ d1) (h2 : rI days_ d2) (h3 : rI use_ d3) : RelE rI (t_plain_regret tariffs_ k_ days_ use_) (m_plain_regret [d0, d1, d2, d3]) := f_ret (n := 1) (ds := [d0, d1, d2, d3]) (bl_plain_regret tariffs_ k_ days_ use_) (.cons (sl h0) (.cons (sl h1) (.cons (sl h2) (.cons (sl h3) (Env.nones 1)))))
def t_regret_of (tariffs_ : (List Tariff)) (k_ : Int) (days_ : Int) (use_ : Int) : Res Int :=
  ((t_check_choice tariffs_ k_).bind fun _u511 => ((t_check_uses days_ use_ use_).bind fun _u515 => (t_plain_regret tariffs_ k_ days_ use_)))
theorem bl_regret_of (tariffs_ : (List Tariff)) (k_ : Int) (days_ : Int) (use_ : Int) : Bl pT [Sl (rL .ro r_Tariff) tariffs_, Sl rI k_, Sl rI days_, Sl rI use_] (phF rI) (t_regret_of tariffs_ k_ days_ use_) b_regret_of := by
  unfold t_regret_of b_regret_of
  exact (b_drop (fun _ _ => trivial) (t_call (ka_p (t_var .z) (fun h509 => (ka_p (t_var (.s .z)) (fun h510 => (ka_n (call_of (ag h509 (ag h510 .n)) (tok_check_choice (lg h509) (lg h510))))))))) (fun _u511 => (b_drop (fun _ _ => trivial) (t_call (ka_p (t_var (.s (.s .z))) (fun h512 => (ka_p (t_var (.s (.s (.s .z)))) (fun h513 => (ka_p (t_var (.s (.s (.s .z)))) (fun h514 => (ka_n (call_of (ag h512 (ag h513 (ag h514 .n))) (tok_check_uses (lg h512) (lg h513) (lg h514))))))))))) (fun _u515 => (b_ret (fun _ _ => trivial) (t_call (ka_p (t_var .z) (fun h516 => (ka_p (t_var (.s .z)) (fun h517 => (ka_p (t_var (.s (.s .z))) (fun h518 => (ka_p (t_var (.s (.s (.s .z)))) (fun h519 => (ka_n (call_of (ag h516 (ag h517 (ag h518 (ag h519 .n)))) (tok_plain_regret (lg h516) (lg h517) (lg h518) (lg h519))))))))))))))))))
theorem tok_regret_of {tariffs_ : (List Tariff)} {k_ : Int} {days_ : Int} {use_ : Int} {d0 d1 d2 d3 : D} (h0 : (rL .ro r_Tariff) tariffs_ d0) (h1 : rI k_ d1) (h2 : rI days_ d2) (h3 : rI use_ d3) : RelE rI (t_regret_of tariffs_ k_ days_ use_) (m_regret_of [d0, d1, d2, d3]) := f_ret (n := 0) (ds := [d0, d1, d2, d3]) (bl_regret_of tariffs_ k_ days_ use_) (.cons (sl h0) (.cons (sl h1) (.cons (sl h2) (.cons (sl h3) (Env.nones 0)))))
def t_check_frame (days_ : Int) (top_ : Int) : Res Unit :=
  (if (!((decide ((1 : Int) ≤ days_)) && (decide (days_ ≤ (400 : Int))))) = true then .err "OutOfRange" [] else (if (!((decide ((0 : Int) ≤ top_)) && (decide (top_ ≤ (1000000000 : Int))))) = true then .err "OutOfRange" [] else .ok ()))
theorem bl_check_frame (days_ : Int) (top_ : Int) : Bl pT [Sl rI days_, Sl rI top_] (phN (fun _ : Unit => [J, J])) (t_check_frame days_ top_) b_check_frame := by
  unfold t_check_frame b_check_frame
  exact (b_ifx exZ (t_not (t_bE (t_ch2 t_int (t_var .z) t_int o_le o_le))) (b_raise0 (fun _ _ => trivial)) (b_if (t_not (t_bE (t_ch2 t_int (t_var (.s .z)) t_int o_le o_le))) (b_raise0 (fun _ _ => trivial)) (b_nilN (.j (.j .n)))))
theorem tok_check_frame {days_ : Int} {top_ : Int} {d0 d1 : D} (h0 : rI days_ d0) (h1 : rI top_ d1) : RelE rN (t_check_frame days_ top_) (m_check_frame [d0, d1]) := f_non (n := 0) (ds := [d0, d1]) (bl_check_frame days_ top_) (.cons (sl h0) (.cons (sl h1) (Env.nones 0)))
def t_corners_of (first_ : Tariff) (second_ : Tariff) (days_ : Int) (top_ : Int) : Res (List Int) :=
  ((t_check_frame days_ top_).bind fun _u536 => (((lenG (List.map (fun q537 => q537.1) first_.steps_)).bind fun v539 => (lenG (List.map (fun q538 => q538.1) second_.steps_)).bind fun v540 => catR v539 v540).bind fun units_ => ((((compR (fun q543 => ((mulR q543 days_).bind fun v544 => .ok (decide (v544 ≤ top_)))) (fun q543 => (mulR q543 days_)) units_).bind lenG).bind fun v545 => catR ([(0 : Int), top_] : List Int) v545).bind fun v547 => setT v547)))
theorem bl_corners_of (first_ : Tariff) (second_ : Tariff) (days_ : Int) (top_ : Int) : Bl pT [Sl r_Tariff first_, Sl r_Tariff second_, Sl rI days_, Sl rI top_, J, J, J] (phF (rL .own rI)) (t_corners_of first_ second_ days_ top_) b_corners_of := by
  unfold t_corners_of b_corners_of
  exact (b_drop (fun _ _ => trivial) (t_call (ka_p (t_var (.s (.s .z))) (fun h534 => (ka_p (t_var (.s (.s (.s .z)))) (fun h535 => (ka_n (call_of (ag h534 (ag h535 .n)) (tok_check_frame (lg h534) (lg h535))))))))) (fun _u536 => (b_setr (fun _ _ => trivial) (t_rr (t_compMp (t_anQ (t_fld (t_var .z) rfl)) (.c (.c .n (.s (.s (.s (.s (.s (.s .z))))))) (.s (.s (.s (.s (.s .z)))))) (fun q537 => (g_t (g_c (g_n (.s (.s (.s (.s (.s .z)))))) (g_1 (g_n (.s (.s (.s (.s (.s (.s .z))))))))))) (fun q537 => (t_dup (t_var (.s (.s (.s (.s (.s .z))))))))) (t_compMp (t_anQ (t_fld (t_var (.s .z)) rfl)) (.c (.c .n (.s (.s (.s (.s (.s (.s .z))))))) (.s (.s (.s (.s (.s .z)))))) (fun q538 => (g_t (g_c (g_n (.s (.s (.s (.s (.s .z)))))) (g_1 (g_n (.s (.s (.s (.s (.s (.s .z))))))))))) (fun q538 => (t_dup (t_var (.s (.s (.s (.s (.s .z))))))))) (fun _ _ => (o_cat (s := rI) (r := rI)))) (fun _ => (.s (.s (.s (.s .z))))) (fun units_ => (b_ret (fun _ _ => trivial) (t_N (ka_r (t_pr (t_lst (ka_p t_int (fun h541 => (ka_p (t_dup (t_var (.s (.s (.s .z))))) (fun h542 => (ka_n (k_lst (r := rI) (.cons h541 (.cons h542 .nil))))))))) (t_compGp (t_anL (t_var (.s (.s (.s (.s .z)))))) (.c .n (.s (.s (.s (.s (.s .z)))))) (fun q543 => (g_n (.s (.s (.s (.s (.s .z))))))) (fun q543 => (t_bE (t_rp (t_pp (t_var (.s (.s (.s (.s (.s .z)))))) (t_var (.s (.s .z))) o_mul) (t_var (.s (.s (.s .z)))) (fun _ => o_le)))) (fun q543 => (t_pp (t_var (.s (.s (.s (.s (.s .z)))))) (t_var (.s (.s .z))) o_mul))) (fun _ => (o_cat (s := rI) (r := rI)))) (fun v547 {_} h546 => (ka_n (k_sortSet h546))))))))))
theorem tok_corners_of {first_ : Tariff} {second_ : Tariff} {days_ : Int} {top_ : Int} {d0 d1 d2 d3 : D} (h0 : r_Tariff first_ d0) (h1 : r_Tariff second_ d1) (h2 : rI days_ d2) (h3 : rI top_ d3) : RelE (rL .own rI) (t_corners_of first_ second_ days_ top_) (m_corners_of [d0, d1, d2, d3]) := f_ret (n := 3) (ds := [d0, d1, d2, d3]) (bl_corners_of first_ second_ days_ top_) (.cons (sl h0) (.cons (sl h1) (.cons (sl h2) (.cons (sl h3) (Env.nones 3)))))
def t_turning_uses (tariffs_ : (List Tariff)) (k_ : Int) (days_ : Int) (least_ : Int) (greatest_ : Int) : Res (List Int) :=
  (letR ([least_, greatest_] : List Int) fun uses_ => ((forN (fun q583 (s582 : (List Int)) => (((((ixR tariffs_ k_).bind fun v585 => t_corners_of v585 q583 days_ greatest_).bind fun l593 => forN (fun q592 (s591 : (List Int)) => ((if (decide (least_ ≤ q592)) = true then ((appR s591 q592).bind fun uses_4 => .ok uses_4) else .ok s591) : Res ((List Int)))) l593 s582).bind fun s594 => .ok s594) : Res ((List Int)))) tariffs_ uses_).bind fun s595 => (setT s595)))
theorem bl_turning_uses (tariffs_ : (List Tariff)) (k_ : Int) (days_ : Int) (least_ : Int) (greatest_ : Int) : Bl pT [Sl (rL .ro r_Tariff) tariffs_, Sl rI k_, Sl rI days_, Sl rI least_, Sl rI greatest_, J, J, J] (phF (rL .own rI)) (t_turning_uses tariffs_ k_ days_ least_ greatest_) b_turning_uses := by
  unfold t_turning_uses b_turning_uses
  exact (b_set (t_lst (ka_p (t_dup (t_var (.s (.s (.s .z))))) (fun h567 => (ka_p (t_dup (t_var (.s (.s (.s (.s .z)))))) (fun h568 => (ka_n (k_lst (r := rI) (.cons h567 (.cons h568 .nil))))))))) (fun _ => (.s (.s (.s (.s (.s .z)))))) (fun uses_ => (b_seqN (b_forNp (Q := (fun s582 : (List Int) => [Sl (rL .ro r_Tariff) tariffs_, Sl rI k_, Sl rI days_, Sl rI least_, Sl rI greatest_, Sl (rL .own rI) s582, J, J])) (t_ofL (t_var .z)) (.s (.s (.s (.s (.s (.s (.j (.j .n)))))))) (fun q583 s582 => (g_n (.s (.s (.s (.s (.s (.s .z)))))))) (fun q583 s582 => (bl_last (b_seqN (b_forN (Q := (fun s591 : (List Int) => [Sl (rL .ro r_Tariff) tariffs_, Sl rI k_, Sl rI days_, Sl rI least_, Sl rI greatest_, Sl (rL .own rI) s591, Sl r_Tariff q583, J])) (fun _ _ => trivial) (t_nwLd (t_call (ka_r (t_pp (t_var .z) (t_var (.s .z)) o_ixL) (fun v585 {_} h584 => (ka_p (t_var (.s (.s (.s (.s (.s (.s .z))))))) (fun h586 => (ka_p (t_var (.s (.s .z))) (fun h587 => (ka_p (t_var (.s (.s (.s (.s .z))))) (fun h588 => (ka_n (call_of (ag h584 (ag h586 (ag h587 (ag h588 .n)))) (tok_corners_of (lg h584) (lg h586) (lg h587) (lg h588)))))))))))))) (.s (.s (.s (.s (.s (.s (.s (.j .n)))))))) (fun q592 s591 => (g_n (.s (.s (.s (.s (.s (.s (.s .z))))))))) (fun q592 s591 => (b_if (t_bE (t_pp (t_var (.s (.s (.s (.s (.s (.s (.s .z)))))))) (t_var (.s (.s (.s .z)))) o_ge)) (bl_last (b_appp (.s (.s (.s (.s (.s .z))))) (t_dup (t_var (.s (.s (.s (.s (.s (.s (.s .z))))))))) (fun _ => (.s (.s (.s (.s (.s .z)))))) (fun uses_4 => (b_nilN (.s (.s (.s (.s (.s (.s (.s (.j .n)))))))))))) (b_nilN (.s (.s (.s (.s (.s (.s (.s (.j .n)))))))))))) (fun s594 => (b_nilN (.s (.s (.s (.s (.s (.s (.j (.j .n)))))))))))))) (fun s595 => (b_ret (fun _ _ => trivial) (t_N (ka_p (t_var (.s (.s (.s (.s (.s .z)))))) (fun h596 => (ka_n (k_sortSet h596))))))))))
theorem tok_turning_uses {tariffs_ : (List Tariff)} {k_ : Int} {days_ : Int} {least_ : Int} {greatest_ : Int} {d0 d1 d2 d3 d4 : D} (h0 : (rL .ro r_Tariff) tariffs_ d0) (h1 : rI k_ d1) (h2 : rI days_ d2) (h3 : rI least_ d3) (h4 : rI greatest_ d4) : RelE (rL .own rI) (t_turning_uses tariffs_ k_ days_ least_ greatest_) (m_turning_uses [d0, d1, d2, d3, d4]) := f_ret (n := 3) (ds := [d0, d1, d2, d3, d4]) (bl_turning_uses tariffs_ k_ days_ least_ greatest_) (.cons (sl h0) (.cons (sl h1) (.cons (sl h2) (.cons (sl h3) (.cons (sl h4) (Env.nones 3))))))
def t_worst_of (tariffs_ : (List Tariff)) (k_ : Int) (days_ : Int) (least_ : Int) (greatest_ : Int) : Res (Int × Int) :=
  (((t_plain_regret tariffs_ k_ days_ least_).bind fun v626 => .ok (v626, least_)).bind fun best_ => (((t_turning_uses tariffs_ k_ days_ least_ greatest_).bind fun l649 => forN (fun q642 (s641 : (Int × Int)) => (((t_plain_regret tariffs_ k_ days_ q642).bind fun regret_2 => (if (decide (s641.1 < regret_2)) = true then (letR (regret_2, q642) fun best_3 => .ok best_3) else .ok s641)) : Res ((Int × Int)))) l649 best_).bind fun s650 => .ok s650))
theorem bl_worst_of (tariffs_ : (List Tariff)) (k_ : Int) (days_ : Int) (least_ : Int) (greatest_ : Int) : Bl pT [Sl (rL .ro r_Tariff) tariffs_, Sl rI k_, Sl rI days_, Sl rI least_, Sl rI greatest_, J, J, J] (phF (rT (rsC rI (rs1 rI)))) (t_worst_of tariffs_ k_ days_ least_ greatest_) b_worst_of := by
  unfold t_worst_of b_worst_of
  exact (b_setr (fun _ _ => trivial) (t_tup (ka_r (t_call (ka_p (t_var .z) (fun h621 => (ka_p (t_var (.s .z)) (fun h622 => (ka_p (t_var (.s (.s .z))) (fun h623 => (ka_p (t_var (.s (.s (.s .z)))) (fun h624 => (ka_n (call_of (ag h621 (ag h622 (ag h623 (ag h624 .n)))) (tok_plain_regret (lg h621) (lg h622) (lg h623) (lg h624))))))))))))) (fun v626 {_} h625 => (ka_p (t_dup (t_var (.s (.s (.s .z))))) (fun h627 => (ka_n (k_tup (s_c h625 (s_1 h627))))))))) (fun _ => (.s (.s (.s (.s (.s .z)))))) (fun best_ => (b_seqN (b_forN (Q := (fun s641 : (Int × Int) => [Sl (rL .ro r_Tariff) tariffs_, Sl rI k_, Sl rI days_, Sl rI least_, Sl rI greatest_, Sl (rT (rsC rI (rs1 rI))) s641, J, J])) (fun _ _ => trivial) (t_nwLd (t_call (ka_p (t_var .z) (fun h628 => (ka_p (t_var (.s .z)) (fun h629 => (ka_p (t_var (.s (.s .z))) (fun h630 => (ka_p (t_var (.s (.s (.s .z)))) (fun h631 => (ka_p (t_var (.s (.s (.s (.s .z))))) (fun h632 => (ka_n (call_of (ag h628 (ag h629 (ag h630 (ag h631 (ag h632 .n))))) (tok_turning_uses (lg h628) (lg h629) (lg h630) (lg h631) (lg h632)))))))))))))))) (.s (.s (.s (.s (.s (.s (.j (.j .n)))))))) (fun q642 s641 => (g_n (.s (.s (.s (.s (.s (.s .z)))))))) (fun q642 s641 => (b_setr (fun _ _ => trivial) (t_call (ka_p (t_var .z) (fun h643 => (ka_p (t_var (.s .z)) (fun h644 => (ka_p (t_var (.s (.s .z))) (fun h645 => (ka_p (t_var (.s (.s (.s (.s (.s (.s .z))))))) (fun h646 => (ka_n (call_of (ag h643 (ag h644 (ag h645 (ag h646 .n)))) (tok_plain_regret (lg h643) (lg h644) (lg h645) (lg h646))))))))))))) (fun _ => (.s (.s (.s (.s (.s (.s (.s .z)))))))) (fun regret_2 => (b_if (t_bE (t_pp (t_var (.s (.s (.s (.s (.s (.s (.s .z)))))))) (t_pp (t_var (.s (.s (.s (.s (.s .z)))))) t_int o_t0) o_gt)) (bl_last (b_set (t_tup (ka_p (t_dup (t_var (.s (.s (.s (.s (.s (.s (.s .z))))))))) (fun h647 => (ka_p (t_dup (t_var (.s (.s (.s (.s (.s (.s .z)))))))) (fun h648 => (ka_n (k_tup (s_c h647 (s_1 h648))))))))) (fun _ => (.s (.s (.s (.s (.s .z)))))) (fun best_3 => (b_nilN (.s (.s (.s (.s (.s (.s (.j (.j .n)))))))))))) (b_nilN (.s (.s (.s (.s (.s (.s (.j (.j .n)))))))))))))) (fun s650 => (b_retV (.s (.s (.s (.s (.s .z))))))))))
theorem tok_worst_of {tariffs_ : (List Tariff)} {k_ : Int} {days_ : Int} {least_ : Int} {greatest_ : Int} {d0 d1 d2 d3 d4 : D} (h0 : (rL .ro r_Tariff) tariffs_ d0) (h1 : rI k_ d1) (h2 : rI days_ d2) (h3 : rI least_ d3) (h4 : rI greatest_ d4) : RelE (rT (rsC rI (rs1 rI))) (t_worst_of tariffs_ k_ days_ least_ greatest_) (m_worst_of [d0, d1, d2, d3, d4]) := f_ret (n := 3) (ds := [d0, d1, d2, d3, d4]) (bl_worst_of tariffs_ k_ days_ least_ greatest_) (.cons (sl h0) (.cons (sl h1) (.cons (sl h2) (.cons (sl h3) (.cons (sl h4) (Env.nones 3))))))
def t_worst_regret (tariffs_ : (List Tariff)) (k_ : Int) (days_ : Int) (least_ : Int) (greatest_ : Int) : Res (Int × Int) :=
  ((t_check_choice tariffs_ k_).bind fun _u665 => ((t_check_uses days_ least_ greatest_).bind fun _u669 => (t_worst_of tariffs_ k_ days_ least_ greatest_)))
theorem bl_worst_regret (tariffs_ : (List Tariff)) (k_ : Int) (days_ : Int) (least_ : Int) (greatest_ : Int) : Bl pT [Sl (rL .ro r_Tariff) tariffs_, Sl rI k_, Sl rI days_, Sl rI least_, Sl rI greatest_] (phF (rT (rsC rI (rs1 rI)))) (t_worst_regret tariffs_ k_ days_ least_ greatest_) b_worst_regret := by
  unfold t_worst_regret b_worst_regret
  exact (b_drop (fun _ _ => trivial) (t_call (ka_p (t_var .z) (fun h663 => (ka_p (t_var (.s .z)) (fun h664 => (ka_n (call_of (ag h663 (ag h664 .n)) (tok_check_choice (lg h663) (lg h664))))))))) (fun _u665 => (b_drop (fun _ _ => trivial) (t_call (ka_p (t_var (.s (.s .z))) (fun h666 => (ka_p (t_var (.s (.s (.s .z)))) (fun h667 => (ka_p (t_var (.s (.s (.s (.s .z))))) (fun h668 => (ka_n (call_of (ag h666 (ag h667 (ag h668 .n))) (tok_check_uses (lg h666) (lg h667) (lg h668))))))))))) (fun _u669 => (b_ret (fun _ _ => trivial) (t_call (ka_p (t_var .z) (fun h670 => (ka_p (t_var (.s .z)) (fun h671 => (ka_p (t_var (.s (.s .z))) (fun h672 => (ka_p (t_var (.s (.s (.s .z)))) (fun h673 => (ka_p (t_var (.s (.s (.s (.s .z))))) (fun h674 => (ka_n (call_of (ag h670 (ag h671 (ag h672 (ag h673 (ag h674 .n))))) (tok_worst_of (lg h670) (lg h671) (lg h672) (lg h673) (lg h674))))))))))))))))))))
theorem tok_worst_regret {tariffs_ : (List Tariff)} {k_ : Int} {days_ : Int} {least_ : Int} {greatest_ : Int} {d0 d1 d2 d3 d4 : D} (h0 : (rL .ro r_Tariff) tariffs_ d0) (h1 : rI k_ d1) (h2 : rI days_ d2) (h3 : rI least_ d3) (h4 : rI greatest_ d4) : RelE (rT (rsC rI (rs1 rI))) (t_worst_regret tariffs_ k_ days_ least_ greatest_) (m_worst_regret [d0, d1, d2, d3, d4]) := f_ret (n := 0) (ds := [d0, d1, d2, d3, d4]) (bl_worst_regret tariffs_ k_ days_ least_ greatest_) (.cons (sl h0) (.cons (sl h1) (.cons (sl h2) (.cons (sl h3) (.cons (sl h4) (Env.nones 0))))))
def t_least_regret (tariffs_ : (List Tariff)) (days_ : Int) (least_ : Int) (greatest_ : Int) : Res (Int × Int) :=
  ((t_check_tariffs tariffs_).bind fun _u713 => ((t_check_uses days_ least_ greatest_).bind fun _u717 => (letR (0 : Int) fun best_ => (((rg1R (tariffs_.length : Int)).bind fun l753 => forN (fun q737 (s736 : Int) => (((((t_worst_of tariffs_ q737 days_ least_ greatest_).bind fun v743 => .ok v743.1).bind fun v750 => ((t_worst_of tariffs_ s736 days_ least_ greatest_).bind fun v749 => .ok v749.1).bind fun v751 => .ok (decide (v750 < v751))).bind fun b752 => if b752 = true then (letR q737 fun best_3 => .ok best_3) else .ok s736) : Res (Int))) l753 best_).bind fun s754 => (((t_worst_of tariffs_ s754 days_ least_ greatest_).bind fun v760 => .ok v760.1).bind fun v763 => .ok (s754, v763))))))
theorem bl_least_regret (tariffs_ : (List Tariff)) (days_ : Int) (least_ : Int) (greatest_ : Int) : Bl pT [Sl (rL .ro r_Tariff) tariffs_, Sl rI days_, Sl rI least_, Sl rI greatest_, J, J] (phF (rT (rsC rI (rs1 rI)))) (t_least_regret tariffs_ days_ least_ greatest_) b_least_regret := by
  unfold t_least_regret b_least_regret
  exact (b_drop (fun _ _ => trivial) (t_call (ka_p (t_var .z) (fun h712 => (ka_n (call_of (ag h712 .n) (tok_check_tariffs (lg h712))))))) (fun _u713 => (b_drop (fun _ _ => trivial) (t_call (ka_p (t_var (.s .z)) (fun h714 => (ka_p (t_var (.s (.s .z))) (fun h715 => (ka_p (t_var (.s (.s (.s .z)))) (fun h716 => (ka_n (call_of (ag h714 (ag h715 (ag h716 .n))) (tok_check_uses (lg h714) (lg h715) (lg h716))))))))))) (fun _u717 => (b_set t_int (fun _ => (.s (.s (.s (.s .z))))) (fun best_ => (b_seqN (b_forN (Q := (fun s736 : Int => [Sl (rL .ro r_Tariff) tariffs_, Sl rI days_, Sl rI least_, Sl rI greatest_, Sl rI s736, J])) (fun _ _ => trivial) (t_rg1p (t_N (ka_p (t_var .z) (fun h718 => (ka_n (k_lenL h718)))))) (.s (.s (.s (.s (.s (.j .n)))))) (fun q737 s736 => (g_n (.s (.s (.s (.s (.s .z))))))) (fun q737 s736 => (b_ifr (fun _ _ => trivial) (t_bE (t_rr (t_rp (t_call (ka_p (t_var .z) (fun h738 => (ka_p (t_var (.s (.s (.s (.s (.s .z)))))) (fun h739 => (ka_p (t_var (.s .z)) (fun h740 => (ka_p (t_var (.s (.s .z))) (fun h741 => (ka_p (t_var (.s (.s (.s .z)))) (fun h742 => (ka_n (call_of (ag h738 (ag h739 (ag h740 (ag h741 (ag h742 .n))))) (tok_worst_of (lg h738) (lg h739) (lg h740) (lg h741) (lg h742))))))))))))))) t_int (fun _ => o_t0)) (t_rp (t_call (ka_p (t_var .z) (fun h744 => (ka_p (t_var (.s (.s (.s (.s .z))))) (fun h745 => (ka_p (t_var (.s .z)) (fun h746 => (ka_p (t_var (.s (.s .z))) (fun h747 => (ka_p (t_var (.s (.s (.s .z)))) (fun h748 => (ka_n (call_of (ag h744 (ag h745 (ag h746 (ag h747 (ag h748 .n))))) (tok_worst_of (lg h744) (lg h745) (lg h746) (lg h747) (lg h748))))))))))))))) t_int (fun _ => o_t0)) (fun _ _ => o_lt))) (bl_last (b_set (t_dup (t_var (.s (.s (.s (.s (.s .z))))))) (fun _ => (.s (.s (.s (.s .z))))) (fun best_3 => (b_nilN (.s (.s (.s (.s (.s (.j .n)))))))))) (b_nilN (.s (.s (.s (.s (.s (.j .n)))))))))) (fun s754 => (b_ret (fun _ _ => trivial) (t_tup (ka_p (t_dup (t_var (.s (.s (.s (.s .z)))))) (fun h761 => (ka_r (t_dup (t_rp (t_call (ka_p (t_var .z) (fun h755 => (ka_p (t_var (.s (.s (.s (.s .z))))) (fun h756 => (ka_p (t_var (.s .z)) (fun h757 => (ka_p (t_var (.s (.s .z))) (fun h758 => (ka_p (t_var (.s (.s (.s .z)))) (fun h759 => (ka_n (call_of (ag h755 (ag h756 (ag h757 (ag h758 (ag h759 .n))))) (tok_worst_of (lg h755) (lg h756) (lg h757) (lg h758) (lg h759))))))))))))))) t_int (fun _ => o_t0))) (fun v763 {_} h762 => (ka_n (k_tup (s_c h761 (s_1 h762))))))))))))))))))
theorem tok_least_regret {tariffs_ : (List Tariff)} {days_ : Int} {least_ : Int} {greatest_ : Int} {d0 d1 d2 d3 : D} (h0 : (rL .ro r_Tariff) tariffs_ d0) (h1 : rI days_ d1) (h2 : rI least_ d2) (h3 : rI greatest_ d3) : RelE (rT (rsC rI (rs1 rI))) (t_least_regret tariffs_ days_ least_ greatest_) (m_least_regret [d0, d1, d2, d3]) := f_ret (n := 2) (ds := [d0, d1, d2, d3]) (bl_least_regret tariffs_ days_ least_ greatest_) (.cons (sl h0) (.cons (sl h1) (.cons (sl h2) (.cons (sl h3) (Env.nones 2)))))
def t__law_called (door_ : Int) (tariffs_ : (List Tariff)) (k_ : Int) (days_ : Int) (least_ : Int) (greatest_ : Int) : Res Str :=
  (((tryT ((((if (decide (door_ = (0 : Int))) = true then ((t_regret_of tariffs_ k_ days_ greatest_).bind fun _u820 => .ok ()) else .ok ()) : Res (Unit)).bind fun s815 => (((if (decide (door_ = (1 : Int))) = true then ((t_worst_regret tariffs_ k_ days_ least_ greatest_).bind fun _u833 => .ok ()) else .ok ()) : Res (Unit)).bind fun s827 => (if (decide (door_ = (2 : Int))) = true then ((t_least_regret tariffs_ days_ least_ greatest_).bind fun _u838 => .ok (.next ())) else .ok (.next ()))))) (fun c839 f840 => clT subT "Empty" c839 (noErr (.ok (.ret ("empty" : Str)))) (clT subT "TooMany" c839 (noErr (((((xfI f840 "limit").bind fun v842 => strR v842).bind fun v843 => catS ("many" : Str) v843).bind fun v844 => .ok (.ret v844)))) (clT subT "OutOfRange" c839 (noErr (.ok (.ret ("range" : Str)))) (clT subT "MeterError" c839 (noErr (.ok (.ret ("other" : Str)))) (.err c839 f840)))))) : Res (Ctl Str (Unit))).bind (onF fun s809 => .ok ("fine" : Str)))
theorem bl__law_called (door_ : Int) (tariffs_ : (List Tariff)) (k_ : Int) (days_ : Int) (least_ : Int) (greatest_ : Int) : Bl pT [Sl rI door_, Sl (rL .ro r_Tariff) tariffs_, Sl rI k_, Sl rI days_, Sl rI least_, Sl rI greatest_, J] (phF rS) (t__law_called door_ tariffs_ k_ days_ least_ greatest_) b__law_called := by
  unfold t__law_called b__law_called
  exact (b_seqF (Q := (fun s808 : Unit => [Sl rI door_, Sl (rL .ro r_Tariff) tariffs_, Sl rI k_, Sl rI days_, Sl rI least_, Sl rI greatest_, J])) (b_try (Pe := [Sl rI door_, Sl (rL .ro r_Tariff) tariffs_, Sl rI k_, Sl rI days_, Sl rI least_, Sl rI greatest_, J]) (b_seqN (Q := (fun s815 : Unit => [Sl rI door_, Sl (rL .ro r_Tariff) tariffs_, Sl rI k_, Sl rI days_, Sl rI least_, Sl rI greatest_, J])) (b_if (t_bE (t_pp (t_var .z) t_int o_eqI)) (bl_last (b_drop (fun _ E => WkE.env (.s (.s (.s (.s (.s (.s (.j .n))))))) E) (t_call (ka_p (t_var (.s .z)) (fun h816 => (ka_p (t_var (.s (.s .z))) (fun h817 => (ka_p (t_var (.s (.s (.s .z)))) (fun h818 => (ka_p (t_var (.s (.s (.s (.s (.s .z)))))) (fun h819 => (ka_n (call_of (ag h816 (ag h817 (ag h818 (ag h819 .n)))) (tok_regret_of (lg h816) (lg h817) (lg h818) (lg h819))))))))))))) (fun _u820 => (b_nilN (.s (.s (.s (.s (.s (.s (.j .n))))))))))) (b_nilN (.s (.s (.s (.s (.s (.s (.j .n))))))))) (fun s815 => (b_seqN (Q := (fun s827 : Unit => [Sl rI door_, Sl (rL .ro r_Tariff) tariffs_, Sl rI k_, Sl rI days_, Sl rI least_, Sl rI greatest_, J])) (b_if (t_bE (t_pp (t_var .z) t_int o_eqI)) (bl_last (b_drop (fun _ E => WkE.env (.s (.s (.s (.s (.s (.s (.j .n))))))) E) (t_call (ka_p (t_var (.s .z)) (fun h828 => (ka_p (t_var (.s (.s .z))) (fun h829 => (ka_p (t_var (.s (.s (.s .z)))) (fun h830 => (ka_p (t_var (.s (.s (.s (.s .z))))) (fun h831 => (ka_p (t_var (.s (.s (.s (.s (.s .z)))))) (fun h832 => (ka_n (call_of (ag h828 (ag h829 (ag h830 (ag h831 (ag h832 .n))))) (tok_worst_regret (lg h828) (lg h829) (lg h830) (lg h831) (lg h832))))))))))))))) (fun _u833 => (b_nilN (.s (.s (.s (.s (.s (.s (.j .n))))))))))) (b_nilN (.s (.s (.s (.s (.s (.s (.j .n))))))))) (fun s827 => (b_if (t_bE (t_pp (t_var .z) t_int o_eqI)) (bl_last (b_drop (fun _ E => WkE.env (.s (.s (.s (.s (.s (.s (.j .n))))))) E) (t_call (ka_p (t_var (.s .z)) (fun h834 => (ka_p (t_var (.s (.s (.s .z)))) (fun h835 => (ka_p (t_var (.s (.s (.s (.s .z))))) (fun h836 => (ka_p (t_var (.s (.s (.s (.s (.s .z)))))) (fun h837 => (ka_n (call_of (ag h834 (ag h835 (ag h836 (ag h837 .n)))) (tok_least_regret (lg h834) (lg h835) (lg h836) (lg h837))))))))))))) (fun _u838 => (b_nilC (.s (.s (.s (.s (.s (.s (.j .n))))))))))) (b_nilC (.s (.s (.s (.s (.s (.s (.j .n))))))))))))) (h_consN beL (fun f840 => (b_retLp (b_ret (fun _ _ => trivial) t_str))) (h_consNA (.s (.s (.s (.s (.s (.s .z)))))) (beLs (fun _ => (.s (.s (.s (.s (.s (.s .z)))))))) (fun f840 => (b_retL (b_ret (fun _ _ => trivial) (t_pr t_str (t_N (ka_r t_xfI (fun v842 {_} h841 => (ka_n (k_strI h841))))) (fun _ => o_catS))))) (h_consN beL (fun f840 => (b_retLp (b_ret (fun _ _ => trivial) t_str))) (h_consN beL (fun f840 => (b_retLp (b_ret (fun _ _ => trivial) t_str))) (h_nil (fun _ _ => trivial))))))) (fun s809 => (b_ret (fun _ _ => trivial) t_str)))
theorem tok__law_called {door_ : Int} {tariffs_ : (List Tariff)} {k_ : Int} {days_ : Int} {least_ : Int} {greatest_ : Int} {d0 d1 d2 d3 d4 d5 : D} (h0 : rI door_ d0) (h1 : (rL .ro r_Tariff) tariffs_ d1) (h2 : rI k_ d2) (h3 : rI days_ d3) (h4 : rI least_ d4) (h5 : rI greatest_ d5) : RelE rS (t__law_called door_ tariffs_ k_ days_ least_ greatest_) (m__law_called [d0, d1, d2, d3, d4, d5]) := f_ret (n := 1) (ds := [d0, d1, d2, d3, d4, d5]) (bl__law_called door_ tariffs_ k_ days_ least_ greatest_) (.cons (sl h0) (.cons (sl h1) (.cons (sl h2) (.cons (sl h3) (.cons (sl h4) (.cons (sl h5) (Env.nones 1)))))))
def t__law_refused (row_ : (List Int)) (tariffs_ : (List Tariff)) : Res Bool :=
  (((t__law_at row_ (0 : Int) (2 : Int)).bind fun v993 => (t__law_at row_ (1 : Int) (1000000 : Int)).bind fun v994 => mulR v993 v994).bind fun far_ => (letR (tariffs_.length : Int) fun many_ => (((repR tariffs_ (9 : Int)).bind fun v996 => .ok (cutA v996 none (some (9 : Int)))).bind fun nine_ => ((forC (fun q1127 (s1126 : Unit) => ((letR ([(([] : List Tariff), (0 : Int), (1 : Int), (0 : Int), (5 : Int), ("empty" : Str)), (([] : List Tariff), (7 : Int), (0 : Int), (5 : Int), (-(1 : Int)), ("empty" : Str)), (nine_, (0 : Int), (1 : Int), (0 : Int), (5 : Int), ("many8" : Str)), (nine_, (9 : Int), (0 : Int), (5 : Int), (-(1 : Int)), ("many8" : Str))] : List ((List Tariff) × Int × Int × Int × Int × Str)) fun due_7 => ((catR due_7 ([(tariffs_, (0 : Int), (0 : Int), (0 : Int), (5 : Int), ("range" : Str)), (tariffs_, (0 : Int), (-far_), (0 : Int), (5 : Int), ("range" : Str)), (tariffs_, (0 : Int), ((401 : Int) + far_), (0 : Int), (5 : Int), ("range" : Str))] : List ((List Tariff) × Int × Int × Int × Int × Str))).bind fun due_8 => ((catR due_8 ([(tariffs_, (many_ - (1 : Int)), (400 : Int), (5 : Int), ((1000000001 : Int) + far_), ("range" : Str)), (tariffs_, (0 : Int), (1 : Int), ((-(1 : Int)) - far_), (-(1 : Int)), ("range" : Str))] : List ((List Tariff) × Int × Int × Int × Int × Str))).bind fun due_9 => ((catR due_9 ([(tariffs_, (many_ - (1 : Int)), (400 : Int), (1000000000 : Int), (1000000000 : Int), ("fine" : Str)), ((cutA nine_ none (some (8 : Int))), (7 : Int), (1 : Int), (0 : Int), (0 : Int), ("fine" : Str))] : List ((List Tariff) × Int × Int × Int × Int × Str))).bind fun due_10 => (((if (decide (q1127 < (2 : Int))) = true then ((catR due_10 ([(tariffs_, (many_ + far_), (1 : Int), (0 : Int), (5 : Int), ("range" : Str)), (tariffs_, ((-(1 : Int)) - far_), (1 : Int), (0 : Int), (5 : Int), ("range" : Str)), (([] : List Tariff), (-(1 : Int)), (1 : Int), (0 : Int), (5 : Int), ("empty" : Str))] : List ((List Tariff) × Int × Int × Int × Int × Str))).bind fun due_12 => .ok due_12) else .ok due_10) : Res ((List ((List Tariff) × Int × Int × Int × Int × Str)))).bind fun s1226 => (((if (decide ((0 : Int) < q1127)) = true then ((catR s1226 ([(tariffs_, (0 : Int), (1 : Int), ((6 : Int) + far_), (5 : Int), ("range" : Str)), (tariffs_, (0 : Int), (1 : Int), ((-(1 : Int)) - far_), (5 : Int), ("range" : Str))] : List ((List Tariff) × Int × Int × Int × Int × Str))).bind fun due_14 => .ok due_14) else .ok s1226) : Res ((List ((List Tariff) × Int × Int × Int × Int × Str)))).bind fun s1262 => ((forC (fun q1288 (s1287 : Unit) => ((((t__law_called q1127 q1288.1 q1288.2.1 q1288.2.2.1 q1288.2.2.2.1 q1288.2.2.2.2.1).bind fun v1295 => .ok (!decide (v1295 = q1288.2.2.2.2.2))).bind fun b1296 => if b1296 = true then .ok (.ret false) else .ok (.next ())) : Res (Ctl Bool (Unit)))) s1262 ()).bind (onC fun s1297 => .ok (.next ()))))))))) : Res (Ctl Bool (Unit)))) (rgI 0 3) ()).bind (onF fun s1298 => .ok true)))))
theorem bl__law_refused (row_ : (List Int)) (tariffs_ : (List Tariff)) : Bl pT [Sl (rL .ro rI) row_, Sl (rL .frz r_Tariff) tariffs_, J, J, J, J, J, J] (phF rB) (t__law_refused row_ tariffs_) b__law_refused := by
  unfold t__law_refused b__law_refused
  exact (b_setr (fun _ _ => trivial) (t_rr (t_call (ka_p (t_var .z) (fun h987 => (ka_p t_int (fun h988 => (ka_p t_int (fun h989 => (ka_n (call_of (ag h987 (ag h988 (ag h989 .n))) (tok__law_at (lg h987) (lg h988) (lg h989))))))))))) (t_call (ka_p (t_var .z) (fun h990 => (ka_p t_int (fun h991 => (ka_p t_int (fun h992 => (ka_n (call_of (ag h990 (ag h991 (ag h992 .n))) (tok__law_at (lg h990) (lg h991) (lg h992))))))))))) (fun _ _ => o_mul)) (fun _ => (.s (.s .z))) (fun far_ => (b_set (t_N (ka_p (t_var (.s .z)) (fun h995 => (ka_n (k_lenL h995))))) (fun _ => (.s (.s (.s .z)))) (fun many_ => (b_setr (fun _ _ => trivial) (t_cutP (t_pp (t_var (.s .z)) t_int o_rep) t_o0 (t_o1 t_int) (fun _ => o_cutL)) (fun _ => (.s (.s (.s (.s .z))))) (fun nine_ => (b_frz (r := (rL .own r_Tariff)) (s := (rL .frz r_Tariff)) (.s (.s (.s (.s .z)))) (.s (.s (.s (.s .z)))) (b_seqF (b_forCp (Q := (fun s1126 : Unit => [Sl (rL .ro rI) row_, Sl (rL .frz r_Tariff) tariffs_, Sl rI far_, Sl rI many_, Sl (rL .frz r_Tariff) nine_, J, J, J])) (t_rgLit (i := 3) (n := 3) (rg1R_nat (n := 3) (by decide)) t_int) (.s (.s (.s (.s (.s (.j (.j (.j .n)))))))) (fun q1127 s1126 => (g_n (.s (.s (.s (.s (.s .z))))))) (fun q1127 s1126 => (b_frz (r := (rL .frz r_Tariff)) (s := (rL .frz r_Tariff)) (.s (.s (.s (.s .z)))) (.s (.s (.s (.s .z)))) (b_set (t_lst (ka_p (t_tup (ka_p (t_frz (s := (rL .frz r_Tariff)) (t_lst (ka_n (k_lst (r := r_Tariff) .nil)))) (fun h1128 => (ka_p t_int (fun h1129 => (ka_p t_int (fun h1130 => (ka_p t_int (fun h1131 => (ka_p t_int (fun h1132 => (ka_p t_str (fun h1133 => (ka_n (k_tup (s_c h1128 (s_c h1129 (s_c h1130 (s_c h1131 (s_c h1132 (s_1 h1133))))))))))))))))))))) (fun h1152 => (ka_p (t_tup (ka_p (t_frz (s := (rL .frz r_Tariff)) (t_lst (ka_n (k_lst (r := r_Tariff) .nil)))) (fun h1134 => (ka_p t_int (fun h1135 => (ka_p t_int (fun h1136 => (ka_p t_int (fun h1137 => (ka_p (t_up t_int o_neg) (fun h1138 => (ka_p t_str (fun h1139 => (ka_n (k_tup (s_c h1134 (s_c h1135 (s_c h1136 (s_c h1137 (s_c h1138 (s_1 h1139))))))))))))))))))))) (fun h1153 => (ka_p (t_tup (ka_p (t_dup (t_var (.s (.s (.s (.s .z)))))) (fun h1140 => (ka_p t_int (fun h1141 => (ka_p t_int (fun h1142 => (ka_p t_int (fun h1143 => (ka_p t_int (fun h1144 => (ka_p t_str (fun h1145 => (ka_n (k_tup (s_c h1140 (s_c h1141 (s_c h1142 (s_c h1143 (s_c h1144 (s_1 h1145))))))))))))))))))))) (fun h1154 => (ka_p (t_tup (ka_p (t_dup (t_var (.s (.s (.s (.s .z)))))) (fun h1146 => (ka_p t_int (fun h1147 => (ka_p t_int (fun h1148 => (ka_p t_int (fun h1149 => (ka_p (t_up t_int o_neg) (fun h1150 => (ka_p t_str (fun h1151 => (ka_n (k_tup (s_c h1146 (s_c h1147 (s_c h1148 (s_c h1149 (s_c h1150 (s_1 h1151))))))))))))))))))))) (fun h1155 => (ka_n (k_lst (r := (rT (rsC (rL .frz r_Tariff) (rsC rI (rsC rI (rsC rI (rsC rI (rs1 rS)))))))) (.cons h1152 (.cons h1153 (.cons h1154 (.cons h1155 .nil))))))))))))))) (fun _ => (.s (.s (.s (.s (.s (.s .z))))))) (fun due_7 => (b_setr (fun _ _ => trivial) (t_pp (t_var (.s (.s (.s (.s (.s (.s .z))))))) (t_lst (ka_p (t_tup (ka_p (t_dup (t_var (.s .z))) (fun h1156 => (ka_p t_int (fun h1157 => (ka_p t_int (fun h1158 => (ka_p t_int (fun h1159 => (ka_p t_int (fun h1160 => (ka_p t_str (fun h1161 => (ka_n (k_tup (s_c h1156 (s_c h1157 (s_c h1158 (s_c h1159 (s_c h1160 (s_1 h1161))))))))))))))))))))) (fun h1174 => (ka_p (t_tup (ka_p (t_dup (t_var (.s .z))) (fun h1162 => (ka_p t_int (fun h1163 => (ka_p (t_up (t_var (.s (.s .z))) o_neg) (fun h1164 => (ka_p t_int (fun h1165 => (ka_p t_int (fun h1166 => (ka_p t_str (fun h1167 => (ka_n (k_tup (s_c h1162 (s_c h1163 (s_c h1164 (s_c h1165 (s_c h1166 (s_1 h1167))))))))))))))))))))) (fun h1175 => (ka_p (t_tup (ka_p (t_dup (t_var (.s .z))) (fun h1168 => (ka_p t_int (fun h1169 => (ka_p (t_pp t_int (t_var (.s (.s .z))) o_add) (fun h1170 => (ka_p t_int (fun h1171 => (ka_p t_int (fun h1172 => (ka_p t_str (fun h1173 => (ka_n (k_tup (s_c h1168 (s_c h1169 (s_c h1170 (s_c h1171 (s_c h1172 (s_1 h1173))))))))))))))))))))) (fun h1176 => (ka_n (k_lst (r := (rT (rsC (rL .frz r_Tariff) (rsC rI (rsC rI (rsC rI (rsC rI (rs1 rS)))))))) (.cons h1174 (.cons h1175 (.cons h1176 .nil)))))))))))) (o_cat (s := (rT (rsC (rL .frz r_Tariff) (rsC rI (rsC rI (rsC rI (rsC rI (rs1 rS)))))))) (r := (rT (rsC (rL .frz r_Tariff) (rsC rI (rsC rI (rsC rI (rsC rI (rs1 rS)))))))))) (fun _ => (.s (.s (.s (.s (.s (.s .z))))))) (fun due_8 => (b_setr (fun _ _ => trivial) (t_pp (t_var (.s (.s (.s (.s (.s (.s .z))))))) (t_lst (ka_p (t_tup (ka_p (t_dup (t_var (.s .z))) (fun h1177 => (ka_p (t_pp (t_var (.s (.s (.s .z)))) t_int o_sub) (fun h1178 => (ka_p t_int (fun h1179 => (ka_p t_int (fun h1180 => (ka_p (t_pp t_int (t_var (.s (.s .z))) o_add) (fun h1181 => (ka_p t_str (fun h1182 => (ka_n (k_tup (s_c h1177 (s_c h1178 (s_c h1179 (s_c h1180 (s_c h1181 (s_1 h1182))))))))))))))))))))) (fun h1189 => (ka_p (t_tup (ka_p (t_dup (t_var (.s .z))) (fun h1183 => (ka_p t_int (fun h1184 => (ka_p t_int (fun h1185 => (ka_p (t_pp (t_up t_int o_neg) (t_var (.s (.s .z))) o_sub) (fun h1186 => (ka_p (t_up t_int o_neg) (fun h1187 => (ka_p t_str (fun h1188 => (ka_n (k_tup (s_c h1183 (s_c h1184 (s_c h1185 (s_c h1186 (s_c h1187 (s_1 h1188))))))))))))))))))))) (fun h1190 => (ka_n (k_lst (r := (rT (rsC (rL .frz r_Tariff) (rsC rI (rsC rI (rsC rI (rsC rI (rs1 rS)))))))) (.cons h1189 (.cons h1190 .nil))))))))) (o_cat (s := (rT (rsC (rL .frz r_Tariff) (rsC rI (rsC rI (rsC rI (rsC rI (rs1 rS)))))))) (r := (rT (rsC (rL .frz r_Tariff) (rsC rI (rsC rI (rsC rI (rsC rI (rs1 rS)))))))))) (fun _ => (.s (.s (.s (.s (.s (.s .z))))))) (fun due_9 => (b_setr (fun _ _ => trivial) (t_pp (t_var (.s (.s (.s (.s (.s (.s .z))))))) (t_lst (ka_p (t_tup (ka_p (t_dup (t_var (.s .z))) (fun h1191 => (ka_p (t_pp (t_var (.s (.s (.s .z)))) t_int o_sub) (fun h1192 => (ka_p t_int (fun h1193 => (ka_p t_int (fun h1194 => (ka_p t_int (fun h1195 => (ka_p t_str (fun h1196 => (ka_n (k_tup (s_c h1191 (s_c h1192 (s_c h1193 (s_c h1194 (s_c h1195 (s_1 h1196))))))))))))))))))))) (fun h1203 => (ka_p (t_tup (ka_p (t_frz (s := (rL .frz r_Tariff)) (t_cutG (t_var (.s (.s (.s (.s .z))))) t_o0 (t_o1 t_int) o_cutL)) (fun h1197 => (ka_p t_int (fun h1198 => (ka_p t_int (fun h1199 => (ka_p t_int (fun h1200 => (ka_p t_int (fun h1201 => (ka_p t_str (fun h1202 => (ka_n (k_tup (s_c h1197 (s_c h1198 (s_c h1199 (s_c h1200 (s_c h1201 (s_1 h1202))))))))))))))))))))) (fun h1204 => (ka_n (k_lst (r := (rT (rsC (rL .frz r_Tariff) (rsC rI (rsC rI (rsC rI (rsC rI (rs1 rS)))))))) (.cons h1203 (.cons h1204 .nil))))))))) (o_cat (s := (rT (rsC (rL .frz r_Tariff) (rsC rI (rsC rI (rsC rI (rsC rI (rs1 rS)))))))) (r := (rT (rsC (rL .frz r_Tariff) (rsC rI (rsC rI (rsC rI (rsC rI (rs1 rS)))))))))) (fun _ => (.s (.s (.s (.s (.s (.s .z))))))) (fun due_10 => (b_seqN (Q := (fun s1226 : (List ((List Tariff) × Int × Int × Int × Int × Str)) => [Sl (rL .ro rI) row_, Sl (rL .frz r_Tariff) tariffs_, Sl rI far_, Sl rI many_, Sl (rL .frz r_Tariff) nine_, Sl rI q1127, Sl (rL .own (rT (rsC (rL .frz r_Tariff) (rsC rI (rsC rI (rsC rI (rsC rI (rs1 rS)))))))) s1226, J])) (b_if (t_bE (t_pp (t_var (.s (.s (.s (.s (.s .z)))))) t_int o_lt)) (bl_last (b_setr (fun _ _ => trivial) (t_pp (t_var (.s (.s (.s (.s (.s (.s .z))))))) (t_lst (ka_p (t_tup (ka_p (t_dup (t_var (.s .z))) (fun h1227 => (ka_p (t_pp (t_var (.s (.s (.s .z)))) (t_var (.s (.s .z))) o_add) (fun h1228 => (ka_p t_int (fun h1229 => (ka_p t_int (fun h1230 => (ka_p t_int (fun h1231 => (ka_p t_str (fun h1232 => (ka_n (k_tup (s_c h1227 (s_c h1228 (s_c h1229 (s_c h1230 (s_c h1231 (s_1 h1232))))))))))))))))))))) (fun h1245 => (ka_p (t_tup (ka_p (t_dup (t_var (.s .z))) (fun h1233 => (ka_p (t_pp (t_up t_int o_neg) (t_var (.s (.s .z))) o_sub) (fun h1234 => (ka_p t_int (fun h1235 => (ka_p t_int (fun h1236 => (ka_p t_int (fun h1237 => (ka_p t_str (fun h1238 => (ka_n (k_tup (s_c h1233 (s_c h1234 (s_c h1235 (s_c h1236 (s_c h1237 (s_1 h1238))))))))))))))))))))) (fun h1246 => (ka_p (t_tup (ka_p (t_frz (s := (rL .frz r_Tariff)) (t_lst (ka_n (k_lst (r := r_Tariff) .nil)))) (fun h1239 => (ka_p (t_up t_int o_neg) (fun h1240 => (ka_p t_int (fun h1241 => (ka_p t_int (fun h1242 => (ka_p t_int (fun h1243 => (ka_p t_str (fun h1244 => (ka_n (k_tup (s_c h1239 (s_c h1240 (s_c h1241 (s_c h1242 (s_c h1243 (s_1 h1244))))))))))))))))))))) (fun h1247 => (ka_n (k_lst (r := (rT (rsC (rL .frz r_Tariff) (rsC rI (rsC rI (rsC rI (rsC rI (rs1 rS)))))))) (.cons h1245 (.cons h1246 (.cons h1247 .nil)))))))))))) (o_cat (s := (rT (rsC (rL .frz r_Tariff) (rsC rI (rsC rI (rsC rI (rsC rI (rs1 rS)))))))) (r := (rT (rsC (rL .frz r_Tariff) (rsC rI (rsC rI (rsC rI (rsC rI (rs1 rS)))))))))) (fun _ => (.s (.s (.s (.s (.s (.s .z))))))) (fun due_12 => (b_nilN (.s (.s (.s (.s (.s (.s (.s (.j .n)))))))))))) (b_nilN (.s (.s (.s (.s (.s (.s (.s (.j .n)))))))))) (fun s1226 => (b_seqN (Q := (fun s1262 : (List ((List Tariff) × Int × Int × Int × Int × Str)) => [Sl (rL .ro rI) row_, Sl (rL .frz r_Tariff) tariffs_, Sl rI far_, Sl rI many_, Sl (rL .frz r_Tariff) nine_, Sl rI q1127, Sl (rL .own (rT (rsC (rL .frz r_Tariff) (rsC rI (rsC rI (rsC rI (rsC rI (rs1 rS)))))))) s1262, J])) (b_if (t_bE (t_pp (t_var (.s (.s (.s (.s (.s .z)))))) t_int o_gt)) (bl_last (b_setr (fun _ _ => trivial) (t_pp (t_var (.s (.s (.s (.s (.s (.s .z))))))) (t_lst (ka_p (t_tup (ka_p (t_dup (t_var (.s .z))) (fun h1263 => (ka_p t_int (fun h1264 => (ka_p t_int (fun h1265 => (ka_p (t_pp t_int (t_var (.s (.s .z))) o_add) (fun h1266 => (ka_p t_int (fun h1267 => (ka_p t_str (fun h1268 => (ka_n (k_tup (s_c h1263 (s_c h1264 (s_c h1265 (s_c h1266 (s_c h1267 (s_1 h1268))))))))))))))))))))) (fun h1275 => (ka_p (t_tup (ka_p (t_dup (t_var (.s .z))) (fun h1269 => (ka_p t_int (fun h1270 => (ka_p t_int (fun h1271 => (ka_p (t_pp (t_up t_int o_neg) (t_var (.s (.s .z))) o_sub) (fun h1272 => (ka_p t_int (fun h1273 => (ka_p t_str (fun h1274 => (ka_n (k_tup (s_c h1269 (s_c h1270 (s_c h1271 (s_c h1272 (s_c h1273 (s_1 h1274))))))))))))))))))))) (fun h1276 => (ka_n (k_lst (r := (rT (rsC (rL .frz r_Tariff) (rsC rI (rsC rI (rsC rI (rsC rI (rs1 rS)))))))) (.cons h1275 (.cons h1276 .nil))))))))) (o_cat (s := (rT (rsC (rL .frz r_Tariff) (rsC rI (rsC rI (rsC rI (rsC rI (rs1 rS)))))))) (r := (rT (rsC (rL .frz r_Tariff) (rsC rI (rsC rI (rsC rI (rsC rI (rs1 rS)))))))))) (fun _ => (.s (.s (.s (.s (.s (.s .z))))))) (fun due_14 => (b_nilN (.s (.s (.s (.s (.s (.s (.s (.j .n)))))))))))) (b_nilN (.s (.s (.s (.s (.s (.s (.s (.j .n)))))))))) (fun s1262 => (b_frz (r := (rL .own (rT (rsC (rL .frz r_Tariff) (rsC rI (rsC rI (rsC rI (rsC rI (rs1 rS))))))))) (s := (rL .frz (rT (rsC (rL .frz r_Tariff) (rsC rI (rsC rI (rsC rI (rsC rI (rs1 rS))))))))) (.s (.s (.s (.s (.s (.s .z)))))) (.s (.s (.s (.s (.s (.s .z)))))) (bl_last (b_seqC (b_forCp (Q := (fun s1287 : Unit => [Sl (rL .ro rI) row_, Sl (rL .frz r_Tariff) tariffs_, Sl rI far_, Sl rI many_, Sl (rL .frz r_Tariff) nine_, Sl rI q1127, Sl (rL .frz (rT (rsC (rL .frz r_Tariff) (rsC rI (rsC rI (rsC rI (rsC rI (rs1 rS)))))))) s1262, J])) (t_ofL (t_var (.s (.s (.s (.s (.s (.s .z)))))))) (.s (.s (.s (.s (.s (.s (.s (.j .n)))))))) (fun q1288 s1287 => (g_n (.s (.s (.s (.s (.s (.s (.s .z))))))))) (fun q1288 s1287 => (b_ifr (fun _ _ => trivial) (t_bE (t_rp (t_call (ka_p (t_var (.s (.s (.s (.s (.s .z)))))) (fun h1289 => (ka_p (t_pp (t_var (.s (.s (.s (.s (.s (.s (.s .z)))))))) t_int o_t0) (fun h1290 => (ka_p (t_pp (t_var (.s (.s (.s (.s (.s (.s (.s .z)))))))) t_int o_t1) (fun h1291 => (ka_p (t_pp (t_var (.s (.s (.s (.s (.s (.s (.s .z)))))))) t_int o_t2) (fun h1292 => (ka_p (t_pp (t_var (.s (.s (.s (.s (.s (.s (.s .z)))))))) t_int o_t3) (fun h1293 => (ka_p (t_pp (t_var (.s (.s (.s (.s (.s (.s (.s .z)))))))) t_int o_t4) (fun h1294 => (ka_n (call_of (ag h1289 (ag h1290 (ag h1291 (ag h1292 (ag h1293 (ag h1294 .n)))))) (tok__law_called (lg h1289) (lg h1290) (lg h1291) (lg h1292) (lg h1293) (lg h1294))))))))))))))))) (t_pp (t_var (.s (.s (.s (.s (.s (.s (.s .z)))))))) t_int o_t5e) (fun _ => o_neS))) (b_XC (b_retXp (b_ret (fun _ _ => trivial) t_bl))) (b_nilC (.s (.s (.s (.s (.s (.s (.s (.j .n)))))))))))) (fun s1297 => (b_nilC (.s (.s (.s (.s (.s (.j (.j (.j .n)))))))))))))))))))))))))))) (fun s1298 => (b_ret (fun _ _ => trivial) t_bl))))))))))
theorem tok__law_refused {row_ : (List Int)} {tariffs_ : (List Tariff)} {d0 d1 : D} (h0 : (rL .ro rI) row_ d0) (h1 : (rL .frz r_Tariff) tariffs_ d1) : RelE rB (t__law_refused row_ tariffs_) (m__law_refused [d0, d1]) := f_ret (n := 6) (ds := [d0, d1]) (bl__law_refused row_ tariffs_) (.cons (sl h0) (.cons (sl h1) (Env.nones 6)))
def t__law_cell (script_ : (List Int)) (k_ : Int) : Res Int :=
  (if (decide (k_ < (script_.length : Int))) = true then ixR script_ k_ else .ok (0 : Int))
theorem bl__law_cell (script_ : (List Int)) (k_ : Int) : Bl pT [Sl rSc script_, Sl rI k_] (phF rI) (t__law_cell script_ k_) b__law_cell := by
  unfold t__law_cell b__law_cell
  exact (b_ifx exF (t_bE (t_pp (t_var (.s .z)) (t_N (ka_p (t_var .z) (fun h1300 => (ka_n (k_lenSc h1300))))) o_lt)) (b_ret (fun _ _ => trivial) (t_dup (t_pp (t_var .z) (t_var (.s .z)) o_ixSc))) (b_ret (fun _ _ => trivial) t_int))
theorem tok__law_cell {script_ : (List Int)} {k_ : Int} {d0 d1 : D} (h0 : rSc script_ d0) (h1 : rI k_ d1) : RelE rI (t__law_cell script_ k_) (m__law_cell [d0, d1]) := f_ret (n := 0) (ds := [d0, d1]) (bl__law_cell script_ k_) (.cons (sl h0) (.cons (sl h1) (Env.nones 0)))
def t_check_steps (steps_ : (List (Int × Int))) : Res Unit :=
  (if (!(!steps_.isEmpty)) = true then .err "Empty" [] else (if (decide ((8 : Int) < (steps_.length : Int))) = true then (.err "TooMany" [("limit", V.int (8 : Int))]) else (letR (-(1 : Int)) fun last_ => ((forN (fun q1311 (s1310 : Int) => ((if (((decide (s1310 < (0 : Int))) && (!decide (q1311.1 = (0 : Int)))) || (decide (q1311.1 ≤ s1310))) = true then .err "BadOrder" [] else (if ((decide ((1000000 : Int) < q1311.1)) || (!((decide ((0 : Int) ≤ q1311.2)) && (decide (q1311.2 ≤ (1000000 : Int)))))) = true then .err "OutOfRange" [] else (letR q1311.1 fun last_3 => .ok last_3))) : Res (Int))) steps_ last_).bind fun s1312 => .ok ()))))
theorem bl_check_steps (steps_ : (List (Int × Int))) : Bl pT [Sl (rL .ro (rT (rsC rI (rs1 rI)))) steps_, J, J, J] (phN (fun _ : Unit => [J, J, J, J])) (t_check_steps steps_) b_check_steps := by
  unfold t_check_steps b_check_steps
  exact (b_ifx exZ (t_not (t_bTL (t_var .z))) (b_raise0 (fun _ _ => trivial)) (b_ifx exZ (t_bE (t_pp (t_N (ka_p (t_var .z) (fun h1307 => (ka_n (k_lenL h1307))))) t_int o_gt)) (b_raise1p (fun _ _ => trivial) t_int) (b_set (t_up t_int o_neg) (fun _ => (.s .z)) (fun last_ => (bl_last (b_seqN (b_forNp (Q := (fun s1310 : Int => [Sl (rL .ro (rT (rsC rI (rs1 rI)))) steps_, Sl rI s1310, J, J])) (t_ofL (t_var .z)) (.s (.s (.j (.j .n)))) (fun q1311 s1310 => (g_t (g_c (g_n (.s (.s .z))) (g_1 (g_n (.s (.s (.s .z)))))))) (fun q1311 s1310 => (b_ifx exZ (t_or (t_and (t_bE (t_pp (t_var (.s .z)) t_int o_lt)) (t_bE (t_pp (t_var (.s (.s .z))) t_int o_neI))) (t_bE (t_pp (t_var (.s (.s .z))) (t_var (.s .z)) o_le))) (b_raise0 (fun _ _ => trivial)) (b_ifx exZ (t_or (t_bE (t_pp (t_var (.s (.s .z))) t_int o_gt)) (t_not (t_bE (t_ch2 t_int (t_var (.s (.s (.s .z)))) t_int o_le o_le)))) (b_raise0 (fun _ _ => trivial)) (bl_last (b_set (t_dup (t_var (.s (.s .z)))) (fun _ => (.s .z)) (fun last_3 => (b_nilN (.s (.s (.j (.j .n)))))))))))) (fun s1312 => (b_nilN (.j (.j (.j (.j .n))))))))))))
theorem tok_check_steps {steps_ : (List (Int × Int))} {d0 : D} (h0 : (rL .ro (rT (rsC rI (rs1 rI)))) steps_ d0) : RelE rN (t_check_steps steps_) (m_check_steps [d0]) := f_non (n := 3) (ds := [d0]) (bl_check_steps steps_) (.cons (sl h0) (Env.nones 3))
def t_Tariff___init__ (standing_ : Int) (steps_ : (List (Int × Int))) : Res Tariff :=
  (if (!((decide ((0 : Int) ≤ standing_)) && (decide (standing_ ≤ (1000000 : Int))))) = true then .err "OutOfRange" [] else ((t_check_steps steps_).bind fun _u1317 => (letR standing_ fun standing_2 => (letR steps_ fun steps_2 => .ok ⟨standing_2, steps_2⟩))))
theorem bl_Tariff___init__ (standing_ : Int) (steps_ : (List (Int × Int))) : Bl pT [SO "Tariff" [], Sl rI standing_, Sl (rL .ro (rT (rsC rI (rs1 rI)))) steps_] (phN (fun a : Tariff => SO "Tariff" (F_Tariff a) :: [J, J])) (t_Tariff___init__ standing_ steps_) b_Tariff___init__ := by
  unfold t_Tariff___init__ b_Tariff___init__
  exact (b_ifx exZ (t_not (t_bE (t_ch2 t_int (t_var (.s .z)) t_int o_le o_le))) (b_raise0 (fun _ _ => trivial)) (b_drop (fun _ _ => trivial) (t_call (ka_p (t_var (.s (.s .z))) (fun h1316 => (ka_n (call_of (ag h1316 .n) (tok_check_steps (lg h1316))))))) (fun _u1317 => (b_fldp (t_dup (t_var (.s .z))) rfl (Nat.le_of_ble_eq_true rfl) (fun standing_2 => (bl_last (b_fldp (t_N (ka_p (t_var (.s (.s .z))) (fun h1318 => (ka_n (k_tupL h1318))))) rfl (Nat.le_of_ble_eq_true rfl) (fun steps_2 => (b_nilN (.s (.j (.j .n))))))))))))
theorem tok_Tariff___init__ {standing_ : Int} {steps_ : (List (Int × Int))} {d0 d1 : D} (h0 : rI standing_ d0) (h1 : (rL .ro (rT (rsC rI (rs1 rI)))) steps_ d1) : RelI F_Tariff (t_Tariff___init__ standing_ steps_) (m_Tariff___init__ [d0, d1]) := f_init (n := 0) (ds := [d0, d1]) (fun _ => ⟨_, rfl⟩) (bl_Tariff___init__ standing_ steps_) (.cons so (.cons (sl h0) (.cons (sl h1) (Env.nones 0))))
def t__law_uses (plans_ : (List (Int × (List (Int × Int))))) (days_ : Int) (least_ : Int) (greatest_ : Int) : Res (List Int) :=
  (if (decide ((greatest_ - least_) < (61 : Int))) = true then (lrgR least_ (greatest_ + (1 : Int))) else (letR ([least_, greatest_] : List Int) fun uses_ => ((forN (fun q1346 (s1345 : (List Int)) => (((((compR (fun q1347 => ((.ok least_ : Res Int).bind fun v1348 => (mulR q1347.1 days_).bind fun v1349 => if (decide (v1348 < v1349)) = true then (.ok greatest_ : Res Int).bind fun v1350 => .ok (decide (v1349 < v1350)) else .ok false)) (fun q1347 => (mulR q1347.1 days_)) q1346.2).bind lenG).bind fun v1351 => catR s1345 v1351).bind fun uses_3 => .ok uses_3) : Res ((List Int)))) plans_ uses_).bind fun s1352 => .ok (sortI s1352))))
theorem bl__law_uses (plans_ : (List (Int × (List (Int × Int))))) (days_ : Int) (least_ : Int) (greatest_ : Int) : Bl pT [Sl (rL .ro (rT (rsC rI (rs1 (rL .ro (rT (rsC rI (rs1 rI)))))))) plans_, Sl rI days_, Sl rI least_, Sl rI greatest_, J, J, J] (phF (rL .own rI)) (t__law_uses plans_ days_ least_ greatest_) b__law_uses := by
  unfold t__law_uses b__law_uses
  exact (b_ifx exF (t_bE (t_pp (t_pp (t_var (.s (.s (.s .z)))) (t_var (.s (.s .z))) o_sub) t_int o_lt)) (b_ret (fun _ _ => trivial) (t_N (ka_p (t_var (.s (.s .z))) (fun h1334 => (ka_p (t_pp (t_var (.s (.s (.s .z)))) t_int o_add) (fun h1335 => (ka_n (k_lrg2 h1334 h1335)))))))) (b_set (t_lst (ka_p (t_dup (t_var (.s (.s .z)))) (fun h1336 => (ka_p (t_dup (t_var (.s (.s (.s .z))))) (fun h1337 => (ka_n (k_lst (r := rI) (.cons h1336 (.cons h1337 .nil))))))))) (fun _ => (.s (.s (.s (.s .z))))) (fun uses_ => (b_seqN (b_forNp (Q := (fun s1345 : (List Int) => [Sl (rL .ro (rT (rsC rI (rs1 (rL .ro (rT (rsC rI (rs1 rI)))))))) plans_, Sl rI days_, Sl rI least_, Sl rI greatest_, Sl (rL .own rI) s1345, J, J])) (t_ofL (t_var .z)) (.s (.s (.s (.s (.s (.j (.j .n))))))) (fun q1346 s1345 => (g_n (.s (.s (.s (.s (.s .z))))))) (fun q1346 s1345 => (bl_last (b_setr (fun _ _ => trivial) (t_pr (t_var (.s (.s (.s (.s .z))))) (t_compGp (t_anL (t_pp (t_var (.s (.s (.s (.s (.s .z)))))) t_int o_t1e)) (.c .n (.s (.s (.s (.s (.s (.s .z))))))) (fun q1347 => (g_n (.s (.s (.s (.s (.s (.s .z)))))))) (fun q1347 => (t_bE (t_ch2r (t_var (.s (.s .z))) (t_pp (t_pp (t_var (.s (.s (.s (.s (.s (.s .z))))))) t_int o_t0) (t_var (.s .z)) o_mul) (t_var (.s (.s (.s .z)))) (fun _ _ => o_lt) (fun _ _ => o_lt)))) (fun q1347 => (t_pp (t_pp (t_var (.s (.s (.s (.s (.s (.s .z))))))) t_int o_t0) (t_var (.s .z)) o_mul))) (fun _ => (o_cat (s := rI) (r := rI)))) (fun _ => (.s (.s (.s (.s .z))))) (fun uses_3 => (b_nilN (.s (.s (.s (.s (.s (.j (.j .n))))))))))))) (fun s1352 => (b_ret (fun _ _ => trivial) (t_N (ka_p (t_var (.s (.s (.s (.s .z))))) (fun h1353 => (ka_n (k_sorted h1353)))))))))))
theorem tok__law_uses {plans_ : (List (Int × (List (Int × Int))))} {days_ : Int} {least_ : Int} {greatest_ : Int} {d0 d1 d2 d3 : D} (h0 : (rL .ro (rT (rsC rI (rs1 (rL .ro (rT (rsC rI (rs1 rI)))))))) plans_ d0) (h1 : rI days_ d1) (h2 : rI least_ d2) (h3 : rI greatest_ d3) : RelE (rL .own rI) (t__law_uses plans_ days_ least_ greatest_) (m__law_uses [d0, d1, d2, d3]) := f_ret (n := 3) (ds := [d0, d1, d2, d3]) (bl__law_uses plans_ days_ least_ greatest_) (.cons (sl h0) (.cons (sl h1) (.cons (sl h2) (.cons (sl h3) (Env.nones 3)))))
def t__law_lines (standing_ : Int) (steps_ : (List (Int × Int))) (days_ : Int) (use_ : Int) : Res (List (Int × Int)) :=
  (letR ([(days_, standing_)] : List (Int × Int)) fun lines_ => (((rg1R (steps_.length : Int)).bind fun l1437 => forN (fun q1411 (s1410 : (List (Int × Int))) => ((letR use_ fun end_3 => (((if (decide ((q1411 + (1 : Int)) < (steps_.length : Int))) = true then (((((ixR steps_ (q1411 + (1 : Int))).bind fun v1419 => .ok v1419.1).bind fun v1420 => mulR v1420 days_).bind fun v1423 => .ok (min use_ v1423)).bind fun end_5 => .ok end_5) else .ok end_3) : Res (Int)).bind fun s1418 => (((((ixR steps_ q1411).bind fun v1424 => .ok v1424.1).bind fun v1425 => mulR v1425 days_).bind fun v1426 => .ok (decide (v1426 < s1418))).bind fun b1436 => if b1436 = true then ((((((ixR steps_ q1411).bind fun v1427 => .ok v1427.1).bind fun v1428 => mulR v1428 days_).bind fun v1429 => .ok (s1418 - v1429)).bind fun v1432 => ((ixR steps_ q1411).bind fun v1430 => .ok v1430.2).bind fun v1434 => .ok (v1432, v1434)).bind fun v1435 => (appR s1410 v1435).bind fun lines_3 => .ok lines_3) else .ok s1410))) : Res ((List (Int × Int))))) l1437 lines_).bind fun s1438 => .ok s1438))
theorem bl__law_lines (standing_ : Int) (steps_ : (List (Int × Int))) (days_ : Int) (use_ : Int) : Bl pT [Sl rI standing_, Sl (rL .ro (rT (rsC rI (rs1 rI)))) steps_, Sl rI days_, Sl rI use_, J, J, J] (phF (rL .own (rT (rsC rI (rs1 rI))))) (t__law_lines standing_ steps_ days_ use_) b__law_lines := by
  unfold t__law_lines b__law_lines
  exact (b_set (t_lst (ka_p (t_tup (ka_p (t_dup (t_var (.s (.s .z)))) (fun h1384 => (ka_p (t_dup (t_var .z)) (fun h1385 => (ka_n (k_tup (s_c h1384 (s_1 h1385))))))))) (fun h1386 => (ka_n (k_lst (r := (rT (rsC rI (rs1 rI)))) (.cons h1386 .nil)))))) (fun _ => (.s (.s (.s (.s .z))))) (fun lines_ => (b_seqN (b_forN (Q := (fun s1410 : (List (Int × Int)) => [Sl rI standing_, Sl (rL .ro (rT (rsC rI (rs1 rI)))) steps_, Sl rI days_, Sl rI use_, Sl (rL .own (rT (rsC rI (rs1 rI)))) s1410, J, J])) (fun _ _ => trivial) (t_rg1p (t_N (ka_p (t_var (.s .z)) (fun h1387 => (ka_n (k_lenL h1387)))))) (.s (.s (.s (.s (.s (.j (.j .n))))))) (fun q1411 s1410 => (g_n (.s (.s (.s (.s (.s .z))))))) (fun q1411 s1410 => (b_set (t_dup (t_var (.s (.s (.s .z))))) (fun _ => (.s (.s (.s (.s (.s (.s .z))))))) (fun end_3 => (b_seqN (Q := (fun s1418 : Int => [Sl rI standing_, Sl (rL .ro (rT (rsC rI (rs1 rI)))) steps_, Sl rI days_, Sl rI use_, Sl (rL .own (rT (rsC rI (rs1 rI)))) s1410, Sl rI q1411, Sl rI s1418])) (b_if (t_bE (t_pp (t_pp (t_var (.s (.s (.s (.s (.s .z)))))) t_int o_add) (t_N (ka_p (t_var (.s .z)) (fun h1412 => (ka_n (k_lenL h1412))))) o_lt)) (bl_last (b_setr (fun _ _ => trivial) (t_N (ka_p (t_var (.s (.s (.s .z)))) (fun h1421 => (ka_r (t_rp (t_rp (t_pp (t_var (.s .z)) (t_pp (t_var (.s (.s (.s (.s (.s .z)))))) t_int o_add) o_ixL) t_int (fun _ => o_t0)) (t_var (.s (.s .z))) (fun _ => o_mul)) (fun v1423 {_} h1422 => (ka_n (k_min2 h1421 h1422))))))) (fun _ => (.s (.s (.s (.s (.s (.s .z))))))) (fun end_5 => (b_nilN (.s (.s (.s (.s (.s (.s (.s .n))))))))))) (b_nilN (.s (.s (.s (.s (.s (.s (.s .n))))))))) (fun s1418 => (b_ifr (fun _ _ => trivial) (t_bE (t_pr (t_var (.s (.s (.s (.s (.s (.s .z))))))) (t_rp (t_rp (t_pp (t_var (.s .z)) (t_var (.s (.s (.s (.s (.s .z)))))) o_ixL) t_int (fun _ => o_t0)) (t_var (.s (.s .z))) (fun _ => o_mul)) (fun _ => o_gt))) (bl_last (b_app (.s (.s (.s (.s .z)))) (fun _ _ => trivial) (t_tup (ka_r (t_pr (t_var (.s (.s (.s (.s (.s (.s .z))))))) (t_rp (t_rp (t_pp (t_var (.s .z)) (t_var (.s (.s (.s (.s (.s .z)))))) o_ixL) t_int (fun _ => o_t0)) (t_var (.s (.s .z))) (fun _ => o_mul)) (fun _ => o_sub)) (fun v1432 {_} h1431 => (ka_r (t_dup (t_rp (t_pp (t_var (.s .z)) (t_var (.s (.s (.s (.s (.s .z)))))) o_ixL) t_int (fun _ => o_t1e))) (fun v1434 {_} h1433 => (ka_n (k_tup (s_c h1431 (s_1 h1433))))))))) (fun _ => (.s (.s (.s (.s .z))))) (fun lines_3 => (b_nilN (.s (.s (.s (.s (.s (.j (.j .n))))))))))) (b_nilN (.s (.s (.s (.s (.s (.j (.j .n))))))))))))))) (fun s1438 => (b_retV (.s (.s (.s (.s .z)))))))))
theorem tok__law_lines {standing_ : Int} {steps_ : (List (Int × Int))} {days_ : Int} {use_ : Int} {d0 d1 d2 d3 : D} (h0 : rI standing_ d0) (h1 : (rL .ro (rT (rsC rI (rs1 rI)))) steps_ d1) (h2 : rI days_ d2) (h3 : rI use_ d3) : RelE (rL .own (rT (rsC rI (rs1 rI)))) (t__law_lines standing_ steps_ days_ use_) (m__law_lines [d0, d1, d2, d3]) := f_ret (n := 3) (ds := [d0, d1, d2, d3]) (bl__law_lines standing_ steps_ days_ use_) (.cons (sl h0) (.cons (sl h1) (.cons (sl h2) (.cons (sl h3) (Env.nones 3)))))
def t__law_charge (standing_ : Int) (steps_ : (List (Int × Int))) (days_ : Int) (use_ : Int) : Res Int :=
  (((t__law_lines standing_ steps_ days_ use_).bind fun v1452 => (mapR (fun q1451 => mulR q1451.1 q1451.2) v1452).bind lenG).bind fun v1454 => .ok (List.sum v1454))
theorem bl__law_charge (standing_ : Int) (steps_ : (List (Int × Int))) (days_ : Int) (use_ : Int) : Bl pT [Sl rI standing_, Sl (rL .ro (rT (rsC rI (rs1 rI)))) steps_, Sl rI days_, Sl rI use_, J] (phF rI) (t__law_charge standing_ steps_ days_ use_) b__law_charge := by
  unfold t__law_charge b__law_charge
  exact (b_ret (fun _ _ => trivial) (t_N (ka_r (t_compR (t_nwLd (t_call (ka_p (t_var .z) (fun h1447 => (ka_p (t_var (.s .z)) (fun h1448 => (ka_p (t_var (.s (.s .z))) (fun h1449 => (ka_p (t_var (.s (.s (.s .z)))) (fun h1450 => (ka_n (call_of (ag h1447 (ag h1448 (ag h1449 (ag h1450 .n)))) (tok__law_lines (lg h1447) (lg h1448) (lg h1449) (lg h1450)))))))))))))) (.c .n (.s (.s (.s (.s .z))))) (fun q1451 => (g_n (.s (.s (.s (.s .z)))))) (fun q1451 => (t_pp (t_pp (t_var (.s (.s (.s (.s .z))))) t_int o_t0) (t_pp (t_var (.s (.s (.s (.s .z))))) t_int o_t1e) o_mul))) (fun v1454 {_} h1453 => (ka_n (k_sum h1453))))))
theorem tok__law_charge {standing_ : Int} {steps_ : (List (Int × Int))} {days_ : Int} {use_ : Int} {d0 d1 d2 d3 : D} (h0 : rI standing_ d0) (h1 : (rL .ro (rT (rsC rI (rs1 rI)))) steps_ d1) (h2 : rI days_ d2) (h3 : rI use_ d3) : RelE rI (t__law_charge standing_ steps_ days_ use_) (m__law_charge [d0, d1, d2, d3]) := f_ret (n := 1) (ds := [d0, d1, d2, d3]) (bl__law_charge standing_ steps_ days_ use_) (.cons (sl h0) (.cons (sl h1) (.cons (sl h2) (.cons (sl h3) (Env.nones 1)))))
def t__law_regret (plans_ : (List (Int × (List (Int × Int))))) (k_ : Int) (days_ : Int) (use_ : Int) : Res Int :=
  (((mapR (fun q1463 => (t__law_charge q1463.1 q1463.2 days_ use_)) plans_).bind lenG).bind fun charges_ => ((ixR charges_ k_).bind fun v1469 => (minT charges_).bind fun v1470 => .ok (v1469 - v1470)))
theorem bl__law_regret (plans_ : (List (Int × (List (Int × Int))))) (k_ : Int) (days_ : Int) (use_ : Int) : Bl pT [Sl (rL .ro (rT (rsC rI (rs1 (rL .ro (rT (rsC rI (rs1 rI)))))))) plans_, Sl rI k_, Sl rI days_, Sl rI use_, J, J] (phF rI) (t__law_regret plans_ k_ days_ use_) b__law_regret := by
  unfold t__law_regret b__law_regret
  exact (b_setr (fun _ _ => trivial) (t_compRp (t_anL (t_var .z)) (.c .n (.s (.s (.s (.s (.s .z)))))) (fun q1463 => (g_n (.s (.s (.s (.s (.s .z))))))) (fun q1463 => (t_call (ka_p (t_pp (t_var (.s (.s (.s (.s (.s .z)))))) t_int o_t0) (fun h1464 => (ka_p (t_pp (t_var (.s (.s (.s (.s (.s .z)))))) t_int o_t1e) (fun h1465 => (ka_p (t_var (.s (.s .z))) (fun h1466 => (ka_p (t_var (.s (.s (.s .z)))) (fun h1467 => (ka_n (call_of (ag h1464 (ag h1465 (ag h1466 (ag h1467 .n)))) (tok__law_charge (lg h1464) (lg h1465) (lg h1466) (lg h1467))))))))))))))) (fun _ => (.s (.s (.s (.s .z))))) (fun charges_ => (b_ret (fun _ _ => trivial) (t_rr (t_pp (t_var (.s (.s (.s (.s .z))))) (t_var (.s .z)) o_ixL) (t_N (ka_p (t_var (.s (.s (.s (.s .z))))) (fun h1468 => (ka_n (k_min1 h1468))))) (fun _ _ => o_sub)))))
theorem tok__law_regret {plans_ : (List (Int × (List (Int × Int))))} {k_ : Int} {days_ : Int} {use_ : Int} {d0 d1 d2 d3 : D} (h0 : (rL .ro (rT (rsC rI (rs1 (rL .ro (rT (rsC rI (rs1 rI)))))))) plans_ d0) (h1 : rI k_ d1) (h2 : rI days_ d2) (h3 : rI use_ d3) : RelE rI (t__law_regret plans_ k_ days_ use_) (m__law_regret [d0, d1, d2, d3]) := f_ret (n := 2) (ds := [d0, d1, d2, d3]) (bl__law_regret plans_ k_ days_ use_) (.cons (sl h0) (.cons (sl h1) (.cons (sl h2) (.cons (sl h3) (Env.nones 2)))))
def t__law_worst (plans_ : (List (Int × (List (Int × Int))))) (k_ : Int) (days_ : Int) (uses_ : (List Int)) : Res (Int × Int) :=
  ((((ixR uses_ (0 : Int)).bind fun v1495 => t__law_regret plans_ k_ days_ v1495).bind fun v1497 => (ixR uses_ (0 : Int)).bind fun v1499 => .ok (v1497, v1499)).bind fun best_ => ((forN (fun q1509 (s1508 : (Int × Int)) => (((t__law_regret plans_ k_ days_ q1509).bind fun regret_2 => (if (decide (s1508.1 < regret_2)) = true then (letR (regret_2, q1509) fun best_3 => .ok best_3) else .ok s1508)) : Res ((Int × Int)))) uses_ best_).bind fun s1516 => .ok s1516))
theorem bl__law_worst (plans_ : (List (Int × (List (Int × Int))))) (k_ : Int) (days_ : Int) (uses_ : (List Int)) : Bl pT [Sl (rL .ro (rT (rsC rI (rs1 (rL .ro (rT (rsC rI (rs1 rI)))))))) plans_, Sl rI k_, Sl rI days_, Sl (rL .ro rI) uses_, J, J, J] (phF (rT (rsC rI (rs1 rI)))) (t__law_worst plans_ k_ days_ uses_) b__law_worst := by
  unfold t__law_worst b__law_worst
  exact (b_setr (fun _ _ => trivial) (t_tup (ka_r (t_call (ka_p (t_var .z) (fun h1491 => (ka_p (t_var (.s .z)) (fun h1492 => (ka_p (t_var (.s (.s .z))) (fun h1493 => (ka_r (t_pp (t_var (.s (.s (.s .z)))) t_int o_ixL) (fun v1495 {_} h1494 => (ka_n (call_of (ag h1491 (ag h1492 (ag h1493 (ag h1494 .n)))) (tok__law_regret (lg h1491) (lg h1492) (lg h1493) (lg h1494))))))))))))) (fun v1497 {_} h1496 => (ka_r (t_dup (t_pp (t_var (.s (.s (.s .z)))) t_int o_ixL)) (fun v1499 {_} h1498 => (ka_n (k_tup (s_c h1496 (s_1 h1498))))))))) (fun _ => (.s (.s (.s (.s .z))))) (fun best_ => (b_seqN (b_forNp (Q := (fun s1508 : (Int × Int) => [Sl (rL .ro (rT (rsC rI (rs1 (rL .ro (rT (rsC rI (rs1 rI)))))))) plans_, Sl rI k_, Sl rI days_, Sl (rL .ro rI) uses_, Sl (rT (rsC rI (rs1 rI))) s1508, J, J])) (t_ofL (t_var (.s (.s (.s .z))))) (.s (.s (.s (.s (.s (.j (.j .n))))))) (fun q1509 s1508 => (g_n (.s (.s (.s (.s (.s .z))))))) (fun q1509 s1508 => (b_setr (fun _ _ => trivial) (t_call (ka_p (t_var .z) (fun h1510 => (ka_p (t_var (.s .z)) (fun h1511 => (ka_p (t_var (.s (.s .z))) (fun h1512 => (ka_p (t_var (.s (.s (.s (.s (.s .z)))))) (fun h1513 => (ka_n (call_of (ag h1510 (ag h1511 (ag h1512 (ag h1513 .n)))) (tok__law_regret (lg h1510) (lg h1511) (lg h1512) (lg h1513))))))))))))) (fun _ => (.s (.s (.s (.s (.s (.s .z))))))) (fun regret_2 => (b_if (t_bE (t_pp (t_var (.s (.s (.s (.s (.s (.s .z))))))) (t_pp (t_var (.s (.s (.s (.s .z))))) t_int o_t0) o_gt)) (bl_last (b_set (t_tup (ka_p (t_dup (t_var (.s (.s (.s (.s (.s (.s .z)))))))) (fun h1514 => (ka_p (t_dup (t_var (.s (.s (.s (.s (.s .z))))))) (fun h1515 => (ka_n (k_tup (s_c h1514 (s_1 h1515))))))))) (fun _ => (.s (.s (.s (.s .z))))) (fun best_3 => (b_nilN (.s (.s (.s (.s (.s (.j (.j .n))))))))))) (b_nilN (.s (.s (.s (.s (.s (.j (.j .n))))))))))))) (fun s1516 => (b_retV (.s (.s (.s (.s .z)))))))))
theorem tok__law_worst {plans_ : (List (Int × (List (Int × Int))))} {k_ : Int} {days_ : Int} {uses_ : (List Int)} {d0 d1 d2 d3 : D} (h0 : (rL .ro (rT (rsC rI (rs1 (rL .ro (rT (rsC rI (rs1 rI)))))))) plans_ d0) (h1 : rI k_ d1) (h2 : rI days_ d2) (h3 : (rL .ro rI) uses_ d3) : RelE (rT (rsC rI (rs1 rI))) (t__law_worst plans_ k_ days_ uses_) (m__law_worst [d0, d1, d2, d3]) := f_ret (n := 3) (ds := [d0, d1, d2, d3]) (bl__law_worst plans_ k_ days_ uses_) (.cons (sl h0) (.cons (sl h1) (.cons (sl h2) (.cons (sl h3) (Env.nones 3)))))
def t__law_is_whole (value_ : Int) : Res Bool :=
  .ok (true && (!false))
theorem bl__law_is_whole (value_ : Int) : Bl pT [Sl rI value_] (phF rB) (t__law_is_whole value_) b__law_is_whole := by
  unfold t__law_is_whole b__law_is_whole
  exact (b_ret (fun _ _ => trivial) (t_eAnd (t_up (t_var .z) (o_isiI (by decide))) (t_eNot (t_up (t_var .z) (o_isiI (by decide))))))
theorem tok__law_is_whole {value_ : Int} {d0 : D} (h0 : rI value_ d0) : RelE rB (t__law_is_whole value_) (m__law_is_whole [d0]) := f_ret (n := 0) (ds := [d0]) (bl__law_is_whole value_) (.cons (sl h0) (Env.nones 0))
def t__law_pair (value_ : (Int × Int)) : Res Bool :=
  (if ((!true) || (!decide ((2 : Int) = (2 : Int)))) = true then .ok false else ((t__law_is_whole value_.1).bind fun v1524 => if v1524 = true then (t__law_is_whole value_.2) else (.ok false : Res Bool)))
theorem bl__law_pair (value_ : (Int × Int)) : Bl pT [Sl (rT (rsC rI (rs1 rI))) value_] (phF rB) (t__law_pair value_) b__law_pair := by
  unfold t__law_pair b__law_pair
  exact (b_ifx exF (t_or (t_not (t_bTb (t_up (t_var .z) (o_isiT (by decide))))) (t_bE (t_pp (t_N (ka_p (t_var .z) (fun h1521 => (ka_n (k_lenT (n := 2) (fun _ => sC_len (fun _ => s1_len)) h1521))))) t_int o_neI))) (b_ret (fun _ _ => trivial) t_bl) (b_ret (fun _ _ => trivial) (t_eAndr (t_call (ka_p (t_pp (t_var .z) t_int o_t0) (fun h1522 => (ka_n (call_of (ag h1522 .n) (tok__law_is_whole (lg h1522))))))) (t_call (ka_p (t_pp (t_var .z) t_int o_t1e) (fun h1523 => (ka_n (call_of (ag h1523 .n) (tok__law_is_whole (lg h1523))))))))))
theorem tok__law_pair {value_ : (Int × Int)} {d0 : D} (h0 : (rT (rsC rI (rs1 rI))) value_ d0) : RelE rB (t__law_pair value_) (m__law_pair [d0]) := f_ret (n := 0) (ds := [d0]) (bl__law_pair value_) (.cons (sl h0) (Env.nones 0))
def t__law_right (tariffs_ : (List Tariff)) (plans_ : (List (Int × (List (Int × Int))))) (days_ : Int) (least_ : Int) (greatest_ : Int) : Res Bool :=
  ((t__law_uses plans_ days_ least_ greatest_).bind fun uses_ => (((rg1R (plans_.length : Int)).bind fun v1604 => (mapR (fun q1599 => (t__law_worst plans_ q1599 days_ uses_)) v1604).bind lenG).bind fun worst_ => (((rg1R (plans_.length : Int)).bind fun l1691 => forC (fun q1643 (s1642 : Unit) => (((t_worst_regret tariffs_ q1643 days_ least_ greatest_).bind fun told_2 => ((((t__law_pair told_2).bind fun v1650 => .ok (!v1650)).bind fun v1652 => if v1652 = true then (.ok true : Res Bool) else ((ixR worst_ q1643).bind fun v1651 => .ok ((!decide (told_2 = v1651))))).bind fun b1690 => if b1690 = true then .ok (.ret false) else ((((ixR uses_ ((uses_.length : Int) / (2 : Int))).bind fun v1657 => .ok ([least_, greatest_, v1657] : List Int)).bind fun l1688 => forC (fun q1674 (s1673 : Unit) => (((t_regret_of tariffs_ q1643 days_ q1674).bind fun regret_3 => ((((t__law_is_whole regret_3).bind fun v1680 => .ok (!v1680)).bind fun v1686 => if v1686 = true then (.ok true : Res Bool) else ((t__law_regret plans_ q1643 days_ q1674).bind fun v1685 => .ok (!decide (regret_3 = v1685)))).bind fun b1687 => if b1687 = true then .ok (.ret false) else .ok (.next ()))) : Res (Ctl Bool (Unit)))) l1688 ()).bind (onC fun s1689 => .ok (.next ()))))) : Res (Ctl Bool (Unit)))) l1691 ()).bind (onF fun s1692 => ((t_least_regret tariffs_ days_ least_ greatest_).bind fun told_3 => (((lenG (List.map (fun q1697 => q1697.1) worst_)).bind fun v1699 => minT v1699).bind fun low_ => ((((rg1R (plans_.length : Int)).bind fun v1704 => (compR (fun q1701 => (((ixR worst_ q1701).bind fun v1702 => .ok v1702.1).bind fun v1703 => .ok (decide (v1703 = low_)))) (fun q1701 => (.ok q1701 : Res Int)) v1704).bind lenG).bind fun v1705 => ixR v1705 (0 : Int)).bind fun first_ => ((t__law_pair told_3).bind fun v1709 => if v1709 = true then (.ok ((decide (told_3 = (first_, low_))) && true) : Res Bool) else (.ok false : Res Bool)))))))))
theorem bl__law_right (tariffs_ : (List Tariff)) (plans_ : (List (Int × (List (Int × Int))))) (days_ : Int) (least_ : Int) (greatest_ : Int) : Bl pT [Sl (rL .ro r_Tariff) tariffs_, Sl (rL .ro (rT (rsC rI (rs1 (rL .ro (rT (rsC rI (rs1 rI)))))))) plans_, Sl rI days_, Sl rI least_, Sl rI greatest_, J, J, J, J, J, J, J, J, J, J] (phF rB) (t__law_right tariffs_ plans_ days_ least_ greatest_) b__law_right := by
  unfold t__law_right b__law_right
  exact (b_setr (fun _ _ => trivial) (t_call (ka_p (t_var (.s .z)) (fun h1594 => (ka_p (t_var (.s (.s .z))) (fun h1595 => (ka_p (t_var (.s (.s (.s .z)))) (fun h1596 => (ka_p (t_var (.s (.s (.s (.s .z))))) (fun h1597 => (ka_n (call_of (ag h1594 (ag h1595 (ag h1596 (ag h1597 .n)))) (tok__law_uses (lg h1594) (lg h1595) (lg h1596) (lg h1597))))))))))))) (fun _ => (.s (.s (.s (.s (.s .z)))))) (fun uses_ => (b_setr (fun _ _ => trivial) (t_compR (t_rg1p (t_N (ka_p (t_var (.s .z)) (fun h1598 => (ka_n (k_lenL h1598)))))) (.c .n (.s (.s (.s (.s (.s (.s (.s .z)))))))) (fun q1599 => (g_n (.s (.s (.s (.s (.s (.s (.s .z))))))))) (fun q1599 => (t_call (ka_p (t_var (.s .z)) (fun h1600 => (ka_p (t_var (.s (.s (.s (.s (.s (.s (.s .z)))))))) (fun h1601 => (ka_p (t_var (.s (.s .z))) (fun h1602 => (ka_p (t_var (.s (.s (.s (.s (.s .z)))))) (fun h1603 => (ka_n (call_of (ag h1600 (ag h1601 (ag h1602 (ag h1603 .n)))) (tok__law_worst (lg h1600) (lg h1601) (lg h1602) (lg h1603))))))))))))))) (fun _ => (.s (.s (.s (.s (.s (.s .z))))))) (fun worst_ => (b_keep .z (.s (.s (.s (.s (.s (.s (.s (.s .z)))))))) (b_seqF (b_forC (Q := (fun s1642 : Unit => [Sl (rL .ro r_Tariff) tariffs_, Sl (rL .ro (rT (rsC rI (rs1 (rL .ro (rT (rsC rI (rs1 rI)))))))) plans_, Sl rI days_, Sl rI least_, Sl rI greatest_, Sl (rL .own rI) uses_, Sl (rL .own (rT (rsC rI (rs1 rI)))) worst_, J, Sl (rL .frz r_Tariff) tariffs_, J, J, J, J, J, J])) (fun _ _ => trivial) (t_rg1p (t_N (ka_p (t_var (.s .z)) (fun h1605 => (ka_n (k_lenL h1605)))))) (.s (.s (.s (.s (.s (.s (.s (.j (.s (.j (.j (.j (.j (.j (.j .n))))))))))))))) (fun q1643 s1642 => (g_n (.s (.s (.s (.s (.s (.s (.s .z))))))))) (fun q1643 s1642 => (b_setr (fun _ _ => trivial) (t_call (ka_p (t_var .z) (fun h1644 => (ka_p (t_var (.s (.s (.s (.s (.s (.s (.s .z)))))))) (fun h1645 => (ka_p (t_var (.s (.s .z))) (fun h1646 => (ka_p (t_var (.s (.s (.s .z)))) (fun h1647 => (ka_p (t_var (.s (.s (.s (.s .z))))) (fun h1648 => (ka_n (call_of (ag h1644 (ag h1645 (ag h1646 (ag h1647 (ag h1648 .n))))) (tok_worst_regret (lg h1644) (lg h1645) (lg h1646) (lg h1647) (lg h1648))))))))))))))) (fun _ => (.s (.s (.s (.s (.s (.s (.s (.s (.s .z)))))))))) (fun told_2 => (b_ifxr exX (fun _ _ => trivial) (t_orr (t_notr (t_bTb (t_call (ka_p (t_var (.s (.s (.s (.s (.s (.s (.s (.s (.s .z)))))))))) (fun h1649 => (ka_n (call_of (ag h1649 .n) (tok__law_pair (lg h1649))))))))) (t_bE (t_pr (t_var (.s (.s (.s (.s (.s (.s (.s (.s (.s .z)))))))))) (t_pp (t_var (.s (.s (.s (.s (.s (.s .z))))))) (t_var (.s (.s (.s (.s (.s (.s (.s .z)))))))) o_ixL) (fun _ => (o_neA (n := 1) (n' := 1) (by decide) (by decide)))))) (b_retXp (b_ret (fun _ _ => trivial) t_bl)) (bl_last (b_seqC (b_forC (Q := (fun s1673 : Unit => [Sl (rL .ro r_Tariff) tariffs_, Sl (rL .ro (rT (rsC rI (rs1 (rL .ro (rT (rsC rI (rs1 rI)))))))) plans_, Sl rI days_, Sl rI least_, Sl rI greatest_, Sl (rL .own rI) uses_, Sl (rL .own (rT (rsC rI (rs1 rI)))) worst_, Sl rI q1643, Sl (rL .frz r_Tariff) tariffs_, Sl (rT (rsC rI (rs1 rI))) told_2, J, J, J, J, J])) (fun _ _ => trivial) (t_nwLd (t_lst (ka_p (t_dup (t_var (.s (.s (.s .z))))) (fun h1654 => (ka_p (t_dup (t_var (.s (.s (.s (.s .z)))))) (fun h1655 => (ka_r (t_dup (t_pp (t_var (.s (.s (.s (.s (.s .z)))))) (t_pp (t_N (ka_p (t_var (.s (.s (.s (.s (.s .z)))))) (fun h1653 => (ka_n (k_lenL h1653))))) t_int (o_fdivl (by decide))) o_ixL)) (fun v1657 {_} h1656 => (ka_n (k_lst (r := rI) (.cons h1654 (.cons h1655 (.cons h1656 .nil))))))))))))) (.s (.s (.s (.s (.s (.s (.s (.s (.s (.s (.j (.j (.j (.j (.j .n))))))))))))))) (fun q1674 s1673 => (g_n (.s (.s (.s (.s (.s (.s (.s (.s (.s (.s .z)))))))))))) (fun q1674 s1673 => (b_setr (fun _ _ => trivial) (t_call (ka_p (t_var .z) (fun h1675 => (ka_p (t_var (.s (.s (.s (.s (.s (.s (.s .z)))))))) (fun h1676 => (ka_p (t_var (.s (.s .z))) (fun h1677 => (ka_p (t_var (.s (.s (.s (.s (.s (.s (.s (.s (.s (.s .z))))))))))) (fun h1678 => (ka_n (call_of (ag h1675 (ag h1676 (ag h1677 (ag h1678 .n)))) (tok_regret_of (lg h1675) (lg h1676) (lg h1677) (lg h1678))))))))))))) (fun _ => (.s (.s (.s (.s (.s (.s (.s (.s (.s (.s (.s .z)))))))))))) (fun regret_3 => (b_ifr (fun _ _ => trivial) (t_orr (t_notr (t_bTb (t_call (ka_p (t_var (.s (.s (.s (.s (.s (.s (.s (.s (.s (.s (.s .z)))))))))))) (fun h1679 => (ka_n (call_of (ag h1679 .n) (tok__law_is_whole (lg h1679))))))))) (t_bE (t_pr (t_var (.s (.s (.s (.s (.s (.s (.s (.s (.s (.s (.s .z)))))))))))) (t_call (ka_p (t_var (.s .z)) (fun h1681 => (ka_p (t_var (.s (.s (.s (.s (.s (.s (.s .z)))))))) (fun h1682 => (ka_p (t_var (.s (.s .z))) (fun h1683 => (ka_p (t_var (.s (.s (.s (.s (.s (.s (.s (.s (.s (.s .z))))))))))) (fun h1684 => (ka_n (call_of (ag h1681 (ag h1682 (ag h1683 (ag h1684 .n)))) (tok__law_regret (lg h1681) (lg h1682) (lg h1683) (lg h1684))))))))))))) (fun _ => o_neI)))) (b_XC (b_retXp (b_ret (fun _ _ => trivial) t_bl))) (b_nilC (.s (.s (.s (.s (.s (.s (.s (.s (.s (.s (.j (.j (.j (.j (.j .n))))))))))))))))))))) (fun s1689 => (b_nilC (.s (.s (.s (.s (.s (.s (.s (.j (.s (.j (.j (.j (.j (.j (.j .n)))))))))))))))))))))))) (fun s1692 => (b_setr (fun _ _ => trivial) (t_call (ka_p (t_var .z) (fun h1693 => (ka_p (t_var (.s (.s .z))) (fun h1694 => (ka_p (t_var (.s (.s (.s .z)))) (fun h1695 => (ka_p (t_var (.s (.s (.s (.s .z))))) (fun h1696 => (ka_n (call_of (ag h1693 (ag h1694 (ag h1695 (ag h1696 .n)))) (tok_least_regret (lg h1693) (lg h1694) (lg h1695) (lg h1696))))))))))))) (fun _ => (.s (.s (.s (.s (.s (.s (.s (.s (.s .z)))))))))) (fun told_3 => (b_setr (fun _ _ => trivial) (t_N (ka_r (t_compMp (t_anL (t_var (.s (.s (.s (.s (.s (.s .z)))))))) (.c .n (.s (.s (.s (.s (.s (.s (.s (.s (.s (.s (.s (.s (.s .z)))))))))))))) (fun q1697 => (g_n (.s (.s (.s (.s (.s (.s (.s (.s (.s (.s (.s (.s (.s .z))))))))))))))) (fun q1697 => (t_dup (t_pp (t_var (.s (.s (.s (.s (.s (.s (.s (.s (.s (.s (.s (.s (.s .z)))))))))))))) t_int o_t0)))) (fun v1699 {_} h1698 => (ka_n (k_min1 h1698))))) (fun _ => (.s (.s (.s (.s (.s (.s (.s (.s (.s (.s (.s (.s .z))))))))))))) (fun low_ => (b_setr (fun _ _ => trivial) (t_dup (t_rp (t_compG (t_rg1p (t_N (ka_p (t_var (.s .z)) (fun h1700 => (ka_n (k_lenL h1700)))))) (.c .n (.s (.s (.s (.s (.s (.s (.s .z)))))))) (fun q1701 => (g_n (.s (.s (.s (.s (.s (.s (.s .z))))))))) (fun q1701 => (t_bE (t_rp (t_rp (t_pp (t_var (.s (.s (.s (.s (.s (.s .z))))))) (t_var (.s (.s (.s (.s (.s (.s (.s .z)))))))) o_ixL) t_int (fun _ => o_t0)) (t_var (.s (.s (.s (.s (.s (.s (.s (.s (.s (.s (.s (.s .z))))))))))))) (fun _ => o_eqI)))) (fun q1701 => (t_dup (t_var (.s (.s (.s (.s (.s (.s (.s .z))))))))))) t_int (fun _ => o_ixL))) (fun _ => (.s (.s (.s (.s (.s (.s (.s (.s (.s (.s (.s (.s (.s (.s .z))))))))))))))) (fun first_ => (b_ret (fun _ _ => trivial) (t_eAndr (t_call (ka_p (t_var (.s (.s (.s (.s (.s (.s (.s (.s (.s .z)))))))))) (fun h1706 => (ka_n (call_of (ag h1706 .n) (tok__law_pair (lg h1706))))))) (t_eAnd (t_pp (t_var (.s (.s (.s (.s (.s (.s (.s (.s (.s .z)))))))))) (t_tup (ka_p (t_var (.s (.s (.s (.s (.s (.s (.s (.s (.s (.s (.s (.s (.s (.s .z))))))))))))))) (fun h1707 => (ka_p (t_var (.s (.s (.s (.s (.s (.s (.s (.s (.s (.s (.s (.s .z))))))))))))) (fun h1708 => (ka_n (k_tup (s_c h1707 (s_1 h1708))))))))) (o_eqA (n := 1) (n' := 1) (by decide) (by decide))) t_bl))))))))))))))))
theorem tok__law_right {tariffs_ : (List Tariff)} {plans_ : (List (Int × (List (Int × Int))))} {days_ : Int} {least_ : Int} {greatest_ : Int} {d0 d1 d2 d3 d4 : D} (h0 : (rL .ro r_Tariff) tariffs_ d0) (h1 : (rL .ro (rT (rsC rI (rs1 (rL .ro (rT (rsC rI (rs1 rI)))))))) plans_ d1) (h2 : rI days_ d2) (h3 : rI least_ d3) (h4 : rI greatest_ d4) : RelE rB (t__law_right tariffs_ plans_ days_ least_ greatest_) (m__law_right [d0, d1, d2, d3, d4]) := f_ret (n := 10) (ds := [d0, d1, d2, d3, d4]) (bl__law_right tariffs_ plans_ days_ least_ greatest_) (.cons (sl h0) (.cons (sl h1) (.cons (sl h2) (.cons (sl h3) (.cons (sl h4) (Env.nones 10))))))
def t_law (script_ : (List Int)) : Res Bool :=
  (((t__law_cell script_ (0 : Int)).bind fun v1840 => t__law_row v1840 (120 : Int)).bind fun row_ => ((t__law_at row_ (0 : Int) (2 : Int)).bind fun wide_ => ((((t__law_at row_ (100 : Int) (4 : Int)).bind fun v1848 => .ok (v1848 + (1 : Int))).bind fun v1851 => t__law_plans (cutA row_ (some (1 : Int)) none) v1851 (3 : Int) wide_).bind fun plans_ => (((((t__law_at row_ (101 : Int) (8 : Int)).bind fun v1857 => .ok (decide (v1857 = (3 : Int)))).bind fun b1867 => if b1867 = true then ((t__law_plans (cutA row_ (some (1 : Int)) none) (8 : Int) (1 : Int) wide_).bind fun plans_3 => .ok plans_3) else .ok plans_) : Res ((List (Int × (List (Int × Int)))))).bind fun s1862 => (((mapR (fun q1868 => (t_Tariff___init__ q1868.1 q1868.2)) s1862).bind lenG).bind fun tariffs_ => (((((t__law_at row_ (102 : Int) (400 : Int)).bind fun v1874 => .ok (v1874 + (1 : Int))).bind fun v1879 => .ok ([(1 : Int), (2 : Int), (400 : Int), v1879] : List Int)).bind fun v1883 => (t__law_at row_ (103 : Int) (4 : Int)).bind fun v1884 => ixR v1883 v1884).bind fun days_ => ((t__law_at row_ (104 : Int) (61 : Int)).bind fun least_ => (((t__law_at row_ (105 : Int) (61 : Int)).bind fun v1891 => .ok (least_ + v1891)).bind fun greatest_ => ((((t__law_at row_ (106 : Int) (s1862.length : Int)).bind fun v1896 => ixR s1862 v1896).bind fun v1897 => .ok v1897.2).bind fun steps_ => ((t__law_at row_ (107 : Int) (3 : Int)).bind fun kind_ => (((if (decide (kind_ = (1 : Int))) = true then (((((((ixR steps_ (-(1 : Int))).bind fun v1918 => .ok v1918.1).bind fun v1919 => mulR v1919 days_).bind fun v1923 => (t__law_at row_ (108 : Int) (3 : Int)).bind fun v1924 => .ok (v1923 + v1924)).bind fun v1925 => .ok (v1925 - (1 : Int))).bind fun v1928 => .ok (max (0 : Int) v1928)).bind fun least_3 => ((((t__law_at row_ (109 : Int) (500000 : Int)).bind fun v1932 => .ok (v1932 * (1000 : Int))).bind fun v1933 => .ok (least_3 + v1933)).bind fun greatest_3 => .ok (least_3, greatest_3))) else .ok (least_, greatest_)) : Res (Int × Int)).bind fun s1917 => (((if (decide (kind_ = (2 : Int))) = true then (((((((t__law_at row_ (108 : Int) (steps_.length : Int)).bind fun v1958 => ixR steps_ v1958).bind fun v1959 => .ok v1959.1).bind fun v1960 => mulR v1960 days_).bind fun v1964 => (t__law_at row_ (109 : Int) (31 : Int)).bind fun v1965 => .ok (v1964 - v1965)).bind fun v1968 => .ok (max (0 : Int) v1968)).bind fun least_5 => (((t__law_at row_ (110 : Int) (61 : Int)).bind fun v1972 => .ok (least_5 + v1972)).bind fun greatest_5 => .ok (least_5, greatest_5))) else .ok (s1917.1, s1917.2)) : Res (Int × Int)).bind fun s1953 => ((((t__law_right tariffs_ s1862 days_ s1953.1 s1953.2).bind fun v1978 => .ok (!v1978)).bind fun v1985 => if v1985 = true then (.ok true : Res Bool) else ((t__law_right tariffs_ s1862 (1 : Int) s1953.1 s1953.1).bind fun v1984 => .ok (!v1984))).bind fun b2002 => if b2002 = true then .ok false else ((((t__law_right (cutA tariffs_ none (some (1 : Int))) (cutA s1862 none (some (1 : Int))) days_ (0 : Int) (1000000000 : Int)).bind fun v1991 => .ok (!v1991)).bind fun v1998 => if v1998 = true then (.ok true : Res Bool) else ((t__law_right tariffs_ s1862 days_ (0 : Int) s1953.2).bind fun v1997 => .ok (!v1997))).bind fun b2001 => if b2001 = true then .ok false else (t__law_refused (cutA row_ (some (111 : Int)) (some (113 : Int))) tariffs_)))))))))))))))
theorem bl_law (script_ : (List Int)) : Bl pT [Sl rSc script_, J, J, J, J, J, J, J, J, J, J] (phF rB) (t_law script_) b_law := by
  unfold t_law b_law
  exact (b_setr (fun _ _ => trivial) (t_call (ka_r (t_call (ka_p (t_var .z) (fun h1837 => (ka_p t_int (fun h1838 => (ka_n (call_of (ag h1837 (ag h1838 .n)) (tok__law_cell (lg h1837) (lg h1838))))))))) (fun v1840 {_} h1839 => (ka_p t_int (fun h1841 => (ka_n (call_of (ag h1839 (ag h1841 .n)) (tok__law_row (lg h1839) (lg h1841))))))))) (fun _ => (.s .z)) (fun row_ => (b_setr (fun _ _ => trivial) (t_call (ka_p (t_var (.s .z)) (fun h1842 => (ka_p t_int (fun h1843 => (ka_p t_int (fun h1844 => (ka_n (call_of (ag h1842 (ag h1843 (ag h1844 .n))) (tok__law_at (lg h1842) (lg h1843) (lg h1844))))))))))) (fun _ => (.s (.s .z))) (fun wide_ => (b_setr (fun _ _ => trivial) (t_call (ka_p (t_cutG (t_var (.s .z)) (t_o1 t_int) t_o0 o_cutL) (fun h1849 => (ka_r (t_rp (t_call (ka_p (t_var (.s .z)) (fun h1845 => (ka_p t_int (fun h1846 => (ka_p t_int (fun h1847 => (ka_n (call_of (ag h1845 (ag h1846 (ag h1847 .n))) (tok__law_at (lg h1845) (lg h1846) (lg h1847))))))))))) t_int (fun _ => o_add)) (fun v1851 {_} h1850 => (ka_p t_int (fun h1852 => (ka_p (t_var (.s (.s .z))) (fun h1853 => (ka_n (call_of (ag h1849 (ag h1850 (ag h1852 (ag h1853 .n)))) (tok__law_plans (lg h1849) (lg h1850) (lg h1852) (lg h1853))))))))))))) (fun _ => (.s (.s (.s .z)))) (fun plans_ => (b_seqN (Q := (fun s1862 : (List (Int × (List (Int × Int)))) => [Sl rSc script_, Sl (rL .own rI) row_, Sl rI wide_, Sl (rL .own (rT (rsC rI (rs1 (rL .frz (rT (rsC rI (rs1 rI)))))))) s1862, J, J, J, J, J, J, J])) (b_ifr (fun _ _ => trivial) (t_bE (t_rp (t_call (ka_p (t_var (.s .z)) (fun h1854 => (ka_p t_int (fun h1855 => (ka_p t_int (fun h1856 => (ka_n (call_of (ag h1854 (ag h1855 (ag h1856 .n))) (tok__law_at (lg h1854) (lg h1855) (lg h1856))))))))))) t_int (fun _ => o_eqI))) (bl_last (b_setr (fun _ _ => trivial) (t_call (ka_p (t_cutG (t_var (.s .z)) (t_o1 t_int) t_o0 o_cutL) (fun h1863 => (ka_p t_int (fun h1864 => (ka_p t_int (fun h1865 => (ka_p (t_var (.s (.s .z))) (fun h1866 => (ka_n (call_of (ag h1863 (ag h1864 (ag h1865 (ag h1866 .n)))) (tok__law_plans (lg h1863) (lg h1864) (lg h1865) (lg h1866))))))))))))) (fun _ => (.s (.s (.s .z)))) (fun plans_3 => (b_nilN (.s (.s (.s (.s (.j (.j (.j (.j (.j (.j (.j .n))))))))))))))) (b_nilN (.s (.s (.s (.s (.j (.j (.j (.j (.j (.j (.j .n))))))))))))) (fun s1862 => (b_setr (fun _ _ => trivial) (t_compRp (t_anL (t_var (.s (.s (.s .z))))) (.c .n (.s (.s (.s (.s (.s .z)))))) (fun q1868 => (g_n (.s (.s (.s (.s (.s .z))))))) (fun q1868 => (t_make (ka_p (t_pp (t_var (.s (.s (.s (.s (.s .z)))))) t_int o_t0) (fun h1869 => (ka_p (t_pp (t_var (.s (.s (.s (.s (.s .z)))))) t_int o_t1e) (fun h1870 => (ka_n (make_of (ag h1869 (ag h1870 .n)) (tok_Tariff___init__ (lg h1869) (lg h1870))))))))))) (fun _ => (.s (.s (.s (.s .z))))) (fun tariffs_ => (b_setr (fun _ _ => trivial) (t_dup (t_rr (t_tmp (ka_p t_int (fun h1875 => (ka_p t_int (fun h1876 => (ka_p t_int (fun h1877 => (ka_r (t_rp (t_call (ka_p (t_var (.s .z)) (fun h1871 => (ka_p t_int (fun h1872 => (ka_p t_int (fun h1873 => (ka_n (call_of (ag h1871 (ag h1872 (ag h1873 .n))) (tok__law_at (lg h1871) (lg h1872) (lg h1873))))))))))) t_int (fun _ => o_add)) (fun v1879 {_} h1878 => (ka_n (k_tmp (r := rI) (.cons h1875 (.cons h1876 (.cons h1877 (.cons h1878 .nil))))))))))))))) (t_call (ka_p (t_var (.s .z)) (fun h1880 => (ka_p t_int (fun h1881 => (ka_p t_int (fun h1882 => (ka_n (call_of (ag h1880 (ag h1881 (ag h1882 .n))) (tok__law_at (lg h1880) (lg h1881) (lg h1882))))))))))) (fun _ _ => o_ixL))) (fun _ => (.s (.s (.s (.s (.s (.s .z))))))) (fun days_ => (b_setr (fun _ _ => trivial) (t_call (ka_p (t_var (.s .z)) (fun h1885 => (ka_p t_int (fun h1886 => (ka_p t_int (fun h1887 => (ka_n (call_of (ag h1885 (ag h1886 (ag h1887 .n))) (tok__law_at (lg h1885) (lg h1886) (lg h1887))))))))))) (fun _ => (.s (.s (.s (.s (.s (.s (.s .z)))))))) (fun least_ => (b_setr (fun _ _ => trivial) (t_pr (t_var (.s (.s (.s (.s (.s (.s (.s .z)))))))) (t_call (ka_p (t_var (.s .z)) (fun h1888 => (ka_p t_int (fun h1889 => (ka_p t_int (fun h1890 => (ka_n (call_of (ag h1888 (ag h1889 (ag h1890 .n))) (tok__law_at (lg h1888) (lg h1889) (lg h1890))))))))))) (fun _ => o_add)) (fun _ => (.s (.s (.s (.s (.s (.s (.s (.s .z))))))))) (fun greatest_ => (b_setr (fun _ _ => trivial) (t_dup (t_rp (t_pr (t_var (.s (.s (.s .z)))) (t_call (ka_p (t_var (.s .z)) (fun h1893 => (ka_p t_int (fun h1894 => (ka_p (t_N (ka_p (t_var (.s (.s (.s .z)))) (fun h1892 => (ka_n (k_lenL h1892))))) (fun h1895 => (ka_n (call_of (ag h1893 (ag h1894 (ag h1895 .n))) (tok__law_at (lg h1893) (lg h1894) (lg h1895))))))))))) (fun _ => o_ixL)) t_int (fun _ => o_t1e))) (fun _ => (.s (.s (.s (.s (.s (.s (.s (.s (.s .z)))))))))) (fun steps_ => (b_setr (fun _ _ => trivial) (t_call (ka_p (t_var (.s .z)) (fun h1898 => (ka_p t_int (fun h1899 => (ka_p t_int (fun h1900 => (ka_n (call_of (ag h1898 (ag h1899 (ag h1900 .n))) (tok__law_at (lg h1898) (lg h1899) (lg h1900))))))))))) (fun _ => (.s (.s (.s (.s (.s (.s (.s (.s (.s (.s .z))))))))))) (fun kind_ => (b_seqN (Q := (fun s1917 : Int × Int => [Sl rSc script_, Sl (rL .own rI) row_, Sl rI wide_, Sl (rL .own (rT (rsC rI (rs1 (rL .frz (rT (rsC rI (rs1 rI)))))))) s1862, Sl (rL .own r_Tariff) tariffs_, J, Sl rI days_, Sl rI s1917.1, Sl rI s1917.2, Sl (rL .frz (rT (rsC rI (rs1 rI)))) steps_, Sl rI kind_])) (b_if (t_bE (t_pp (t_var (.s (.s (.s (.s (.s (.s (.s (.s (.s (.s .z))))))))))) t_int o_eqI)) (b_setr (fun _ _ => trivial) (t_N (ka_p t_int (fun h1926 => (ka_r (t_rp (t_rr (t_rp (t_rp (t_pp (t_var (.s (.s (.s (.s (.s (.s (.s (.s (.s .z)))))))))) (t_up t_int o_neg) o_ixL) t_int (fun _ => o_t0)) (t_var (.s (.s (.s (.s (.s (.s .z))))))) (fun _ => o_mul)) (t_call (ka_p (t_var (.s .z)) (fun h1920 => (ka_p t_int (fun h1921 => (ka_p t_int (fun h1922 => (ka_n (call_of (ag h1920 (ag h1921 (ag h1922 .n))) (tok__law_at (lg h1920) (lg h1921) (lg h1922))))))))))) (fun _ _ => o_add)) t_int (fun _ => o_sub)) (fun v1928 {_} h1927 => (ka_n (k_max2 h1926 h1927))))))) (fun _ => (.s (.s (.s (.s (.s (.s (.s .z)))))))) (fun least_3 => (bl_last (b_setr (fun _ _ => trivial) (t_pr (t_var (.s (.s (.s (.s (.s (.s (.s .z)))))))) (t_rp (t_call (ka_p (t_var (.s .z)) (fun h1929 => (ka_p t_int (fun h1930 => (ka_p t_int (fun h1931 => (ka_n (call_of (ag h1929 (ag h1930 (ag h1931 .n))) (tok__law_at (lg h1929) (lg h1930) (lg h1931))))))))))) t_int (fun _ => (o_mulr (by decide)))) (fun _ => o_add)) (fun _ => (.s (.s (.s (.s (.s (.s (.s (.s .z))))))))) (fun greatest_3 => (b_nilN (.s (.s (.s (.s (.s (.j (.s (.s (.s (.s (.s .n))))))))))))))))) (b_nilN (.s (.s (.s (.s (.s (.j (.s (.s (.s (.s (.s .n))))))))))))) (fun s1917 => (b_seqN (Q := (fun s1953 : Int × Int => [Sl rSc script_, Sl (rL .own rI) row_, Sl rI wide_, Sl (rL .own (rT (rsC rI (rs1 (rL .frz (rT (rsC rI (rs1 rI)))))))) s1862, Sl (rL .own r_Tariff) tariffs_, J, Sl rI days_, Sl rI s1953.1, Sl rI s1953.2, Sl (rL .frz (rT (rsC rI (rs1 rI)))) steps_, Sl rI kind_])) (b_if (t_bE (t_pp (t_var (.s (.s (.s (.s (.s (.s (.s (.s (.s (.s .z))))))))))) t_int o_eqI)) (b_setr (fun _ _ => trivial) (t_N (ka_p t_int (fun h1966 => (ka_r (t_rr (t_rp (t_rp (t_pr (t_var (.s (.s (.s (.s (.s (.s (.s (.s (.s .z)))))))))) (t_call (ka_p (t_var (.s .z)) (fun h1955 => (ka_p t_int (fun h1956 => (ka_p (t_N (ka_p (t_var (.s (.s (.s (.s (.s (.s (.s (.s (.s .z)))))))))) (fun h1954 => (ka_n (k_lenL h1954))))) (fun h1957 => (ka_n (call_of (ag h1955 (ag h1956 (ag h1957 .n))) (tok__law_at (lg h1955) (lg h1956) (lg h1957))))))))))) (fun _ => o_ixL)) t_int (fun _ => o_t0)) (t_var (.s (.s (.s (.s (.s (.s .z))))))) (fun _ => o_mul)) (t_call (ka_p (t_var (.s .z)) (fun h1961 => (ka_p t_int (fun h1962 => (ka_p t_int (fun h1963 => (ka_n (call_of (ag h1961 (ag h1962 (ag h1963 .n))) (tok__law_at (lg h1961) (lg h1962) (lg h1963))))))))))) (fun _ _ => o_sub)) (fun v1968 {_} h1967 => (ka_n (k_max2 h1966 h1967))))))) (fun _ => (.s (.s (.s (.s (.s (.s (.s .z)))))))) (fun least_5 => (bl_last (b_setr (fun _ _ => trivial) (t_pr (t_var (.s (.s (.s (.s (.s (.s (.s .z)))))))) (t_call (ka_p (t_var (.s .z)) (fun h1969 => (ka_p t_int (fun h1970 => (ka_p t_int (fun h1971 => (ka_n (call_of (ag h1969 (ag h1970 (ag h1971 .n))) (tok__law_at (lg h1969) (lg h1970) (lg h1971))))))))))) (fun _ => o_add)) (fun _ => (.s (.s (.s (.s (.s (.s (.s (.s .z))))))))) (fun greatest_5 => (b_nilN (.s (.s (.s (.s (.s (.j (.s (.s (.s (.s (.s .n))))))))))))))))) (b_nilN (.s (.s (.s (.s (.s (.j (.s (.s (.s (.s (.s .n))))))))))))) (fun s1953 => (b_ifxr exF (fun _ _ => trivial) (t_orr (t_notr (t_bTb (t_call (ka_p (t_var (.s (.s (.s (.s .z))))) (fun h1973 => (ka_p (t_var (.s (.s (.s .z)))) (fun h1974 => (ka_p (t_var (.s (.s (.s (.s (.s (.s .z))))))) (fun h1975 => (ka_p (t_var (.s (.s (.s (.s (.s (.s (.s .z)))))))) (fun h1976 => (ka_p (t_var (.s (.s (.s (.s (.s (.s (.s (.s .z))))))))) (fun h1977 => (ka_n (call_of (ag h1973 (ag h1974 (ag h1975 (ag h1976 (ag h1977 .n))))) (tok__law_right (lg h1973) (lg h1974) (lg h1975) (lg h1976) (lg h1977))))))))))))))))) (t_notr (t_bTb (t_call (ka_p (t_var (.s (.s (.s (.s .z))))) (fun h1979 => (ka_p (t_var (.s (.s (.s .z)))) (fun h1980 => (ka_p t_int (fun h1981 => (ka_p (t_var (.s (.s (.s (.s (.s (.s (.s .z)))))))) (fun h1982 => (ka_p (t_var (.s (.s (.s (.s (.s (.s (.s .z)))))))) (fun h1983 => (ka_n (call_of (ag h1979 (ag h1980 (ag h1981 (ag h1982 (ag h1983 .n))))) (tok__law_right (lg h1979) (lg h1980) (lg h1981) (lg h1982) (lg h1983)))))))))))))))))) (b_ret (fun _ _ => trivial) t_bl) (b_ifxr exF (fun _ _ => trivial) (t_orr (t_notr (t_bTb (t_call (ka_p (t_cutG (t_var (.s (.s (.s (.s .z))))) t_o0 (t_o1 t_int) o_cutL) (fun h1986 => (ka_p (t_cutG (t_var (.s (.s (.s .z)))) t_o0 (t_o1 t_int) o_cutL) (fun h1987 => (ka_p (t_var (.s (.s (.s (.s (.s (.s .z))))))) (fun h1988 => (ka_p t_int (fun h1989 => (ka_p t_int (fun h1990 => (ka_n (call_of (ag h1986 (ag h1987 (ag h1988 (ag h1989 (ag h1990 .n))))) (tok__law_right (lg h1986) (lg h1987) (lg h1988) (lg h1989) (lg h1990))))))))))))))))) (t_notr (t_bTb (t_call (ka_p (t_var (.s (.s (.s (.s .z))))) (fun h1992 => (ka_p (t_var (.s (.s (.s .z)))) (fun h1993 => (ka_p (t_var (.s (.s (.s (.s (.s (.s .z))))))) (fun h1994 => (ka_p t_int (fun h1995 => (ka_p (t_var (.s (.s (.s (.s (.s (.s (.s (.s .z))))))))) (fun h1996 => (ka_n (call_of (ag h1992 (ag h1993 (ag h1994 (ag h1995 (ag h1996 .n))))) (tok__law_right (lg h1992) (lg h1993) (lg h1994) (lg h1995) (lg h1996)))))))))))))))))) (b_ret (fun _ _ => trivial) t_bl) (b_frz (r := (rL .own r_Tariff)) (s := (rL .frz r_Tariff)) (.s (.s (.s (.s .z)))) (.s (.s (.s (.s .z)))) (b_ret (fun _ _ => trivial) (t_call (ka_p (t_cutG (t_var (.s .z)) (t_o1 t_int) (t_o1 t_int) o_cutL) (fun h1999 => (ka_p (t_var (.s (.s (.s (.s .z))))) (fun h2000 => (ka_n (call_of (ag h1999 (ag h2000 .n)) (tok__law_refused (lg h1999) (lg h2000)))))))))))))))))))))))))))))))))))))
theorem tok_law {script_ : (List Int)} {d0 : D} (h0 : rSc script_ d0) : RelE rB (t_law script_) (m_law [d0]) := f_ret (n := 10) (ds := [d0]) (bl_law script_) (.cons (sl h0) (Env.nones 10))
theorem tlaw_of (h : ∀ ns : List Int, ns.length ≤ 63 → t_law ns = .ok true) : ∀ ns : List Int, ns.length ≤ 63 → m_law [.scr ns] = .ok (.bl true) := fun ns hn => by
  have z := tok_law (script_ := ns) (d0 := .scr ns) rfl
  rw [h ns hn] at z
  obtain ⟨d, e, k⟩ := z
  have k : d = .bl true := k
  rw [e, k]
end K47
namespace K47
open PySem L2 DH
/-! ### loops that return -/
theorem y_forCR {β σ : Type} {B : Int → σ → Res (Ctl β σ)} {n : Nat} (I : Nat → σ → Prop) {s : σ} (h : I 0 s) (hs : ∀ (k : Nat) s, k < n → I k s → ∃ s', B (k : Int) s = .ok (.next s') ∧ I (k + 1) s') : Yld (forC B (rgI 0 n) s) (fun c => ∃ s', c = .next s' ∧ I n s') := by
  refine y_mono (y_forC (fun done s => I done.length s) h fun done q rest s e hi => ?_) fun c ⟨s', e, hi⟩ => ⟨s', e, by rwa [rgI_len] at hi⟩
  obtain ⟨rfl, hk⟩ := rgI_split e
  rw [Int.zero_add]
  obtain ⟨s', e1, h1⟩ := hs _ s hk hi
  exact ⟨s', .inl e1, by simpa using h1⟩
theorem rgI_at {n j : Nat} (h : j < (rgI 0 n).length) : (rgI 0 n)[j] = (j : Int) := by
  have := rgI_get (lo := 0) (n := n) (i := j) (by rwa [rgI_len] at h)
  rw [List.getElem?_eq_getElem h] at this
  have := Option.some.inj this
  omega
theorem forC_pos {B : α → Unit → Res (Ctl β Unit)} {v : β} : ∀ {as : List α} {k : Nat} (hk : k < as.length), (∀ j, ∀ hj : j < k, B (as[j]'(by omega)) () = .ok (.next ())) → B as[k] () = .ok (.ret v) → forC B as () = .ok (.ret v)
  | [], k, hk, _, _ => by simp at hk
  | a :: as, 0, _, _, h => by rw [forC_cons, show B a () = _ from h]; rfl
  | a :: as, k + 1, hk, h, h2 => by
    rw [forC_cons, show B a () = _ from h 0 (by omega), rb_ok, stC_next]
    exact forC_pos (k := k) (by simpa using hk) (fun j hj => h (j + 1) (by omega)) h2
theorem forC_at {B : Int → Unit → Res (Ctl β Unit)} {n k : Nat} {v : β} (hk : k < n) (h1 : ∀ j : Nat, j < k → B j () = .ok (.next ())) (h2 : B k () = .ok (.ret v)) : forC B (rgI 0 n) () = .ok (.ret v) :=
  forC_pos (k := k) (by rw [rgI_len]; exact hk) (fun j hj => by rw [rgI_at]; exact h1 j hj) (by rw [rgI_at]; exact h2)
theorem forC_none {B : Int → Unit → Res (Ctl β Unit)} {n : Nat} (h1 : ∀ j : Nat, j < n → B j () = .ok (.next ())) : forC B (rgI 0 n) () = .ok (.next ()) :=
  forC_unit fun a m => by
    obtain ⟨q1, q2⟩ := mem_rgI.mp m
    have := h1 a.toNat (by omega)
    rwa [show ((a.toNat : Nat) : Int) = a by omega] at this
/-- the first answer -/
def ctlO {β : Type} : Option β → Ctl β Unit
  | some b => .ret b
  | none => .next ()
theorem forC_findSome {α β : Type} {B : α → Unit → Res (Ctl β Unit)} {g : α → Option β} : ∀ {as : List α}, (∀ a ∈ as, B a () = .ok (ctlO (g a))) → forC B as () = .ok (ctlO (as.findSome? g))
  | [], _ => rfl
  | a :: as, h => by
    rw [forC_cons, h a List.mem_cons_self, rb_ok, List.findSome?_cons]
    cases g a with
    | some b => rfl
    | none => exact forC_findSome fun x m => h x (List.mem_cons_of_mem _ m)
theorem findSome_map {α β γ : Type} {g : α → Option β} {f : β → γ} : ∀ {as : List α}, as.findSome? (fun a => (g a).map f) = (as.findSome? g).map f
  | [] => rfl
  | a :: as => by
    rw [List.findSome?_cons, List.findSome?_cons]
    cases g a with
    | some b => rfl
    | none => exact findSome_map
theorem forN_findSome {α : Type} {B : α → Unit → Res Unit} {e : α → Option (Str × List (Str × V))} : ∀ {as : List α}, (∀ a, B a () = match e a with | some p => .err p.1 p.2 | none => .ok ()) → forN B as () = match as.findSome? e with | some p => .err p.1 p.2 | none => .ok ()
  | [], _ => rfl
  | a :: as, h => by
    rw [forN_cons, h, List.findSome?_cons]
    cases e a with
    | some b => rfl
    | none => exact forN_findSome h
theorem onF_ctlO_none {β σ : Type} {W : Unit → Res β} : onF W (ctlO (none : Option β)) = W () := ndq rfl
theorem onF_ctlO_some {β : Type} {W : Unit → Res β} {b : β} : onF W (ctlO (some b)) = .ok b := ndq rfl
theorem forC_findB {α β : Type} {B : α → Unit → Res (Ctl β Unit)} {p : α → Bool} {g : α → β} {as : List α} (h : ∀ a ∈ as, B a () = .ok (if p a = true then .ret (g a) else .next ())) : forC B as () = .ok (ctlO ((as.find? p).map g)) := by
  rw [forC_find (p := p) (g := g) (fun a m hp => by rw [h a m, hp]; rfl) (fun a m hp => by rw [h a m, hp]; rfl)]
  cases as.find? p <;> rfl
/-! ### drawing -/
theorem cell_ok (ns : List Int) (k : Nat) : ∃ c, t__law_cell ns (k : Int) = .ok c := by
  unfold t__law_cell
  by_cases h : k < ns.length
  · refine ⟨ns[k], ?_⟩
    rw [if_pos (by simpa using h)]
    exact ixR_nat (List.getElem?_eq_getElem h)
  · exact ⟨0, by rw [if_neg (by simpa using h)]⟩
theorem row_ok (c : Int) (m : Nat) (hm : m ≤ 1000000) : Yld (t__law_row c (m : Int)) (fun r => r.length = m) := by
  unfold t__law_row
  simp only [letR_eq, rg1R_nat (show m < 4611686018427387904 by omega), rb_ok, rb_bind_ok]
  refine y_ifb (fun h => ?_) fun h => ?_
  · refine y_bind (y_forR (fun k s => s.2.length = k) rfl fun k s hk hs => ?_) fun s hs => y_ok hs
    rw [appR_lt (by omega)]
    exact y_ok (by simp [hs])
  · refine y_forR (fun k (s : List Int) => s.length = k) rfl fun k s hk hs => ?_
    rw [mulR_r ⟨by omega, by omega⟩]
    exact y_eq (appR_lt (by omega)) (by simp [hs])
theorem at_ok (row : List Int) (a m : Int) (h0 : 0 ≤ a) (h1 : a < row.length) (hm : 0 < m) : ∃ x, t__law_at row a m = .ok x ∧ 0 ≤ x ∧ x < m := by
  refine ⟨row[a.toNat]'(by omega) % m, ?_, Int.emod_nonneg _ (by omega), Int.emod_lt_of_pos _ hm⟩
  unfold t__law_at
  rw [ixR_lt h0 h1, rb_ok, rb_ok, modR_pos hm]
theorem two_ok {a b w : Int} (hw : w = 0 ∨ w = 1) : ∃ x, ixR [a, b] w = .ok x ∧ (x = a ∨ x = b) := by
  rcases hw with rfl | rfl
  · exact ⟨a, ixR_0, .inl rfl⟩
  · exact ⟨b, ixR_1, .inr rfl⟩
/-! ### tariffs -/
def chg (u d : Int) : Int → List (Int × Int) → Int
  | _, [] => 0
  | l, p :: r => (p.2 - l) * max 0 (u - p.1 * d) + chg u d p.2 r
def prc (u d : Int) : Int → List (Int × Int) → Int
  | f, [] => f
  | f, p :: r => prc u d (if p.1 * d ≤ u then p.2 else f) r
def okU (u d : Int) : Prop := (0 ≤ u ∧ u ≤ 1000000000) ∧ (1 ≤ d ∧ d ≤ 400)
instance (u d : Int) : Decidable (okU u d) := by unfold okU; infer_instance
/-- begins ascend -/
def Up : List (Int × Int) → Prop
  | [] => True
  | p :: r => (∀ q ∈ r, p.1 < q.1) ∧ Up r
structure Good (ps : List (Int × Int)) : Prop where
  up : Up ps
  b : ∀ p ∈ ps, 0 ≤ p.1 ∧ p.1 ≤ 1000000 ∧ 0 ≤ p.2 ∧ p.2 ≤ 1000000
  z : ∃ p r, ps = p :: r ∧ p.1 = 0
  len : 1 ≤ ps.length ∧ ps.length ≤ 8
/-- what is charged -/
def cg (s : Int) (ps : List (Int × Int)) (u d : Int) : Int := s * d + chg u d 0 ps
theorem mulD {a d : Int} (hd : 1 ≤ d ∧ d ≤ 400) : mulR a d = .ok (a * d) := mulR_r ⟨by omega, by omega⟩
theorem check_use_eq (u d : Int) : t_check_use u d = if okU u d then .ok () else .err "OutOfRange" [] := by
  unfold t_check_use okU
  by_cases h1 : 0 ≤ u <;> by_cases h2 : u ≤ 1000000000 <;> by_cases h3 : 1 ≤ d <;> by_cases h4 : d ≤ 400 <;> simp [h1, h2, h3, h4]
theorem cg_loop {B : Int × Int → Int × Int → Res (Int × Int)} {u d : Int} (hB : ∀ q t l, 0 ≤ q.2 ∧ q.2 ≤ 1000000 → 0 ≤ l ∧ l ≤ 1000000 → B q (t, l) = .ok (t + (q.2 - l) * max 0 (u - q.1 * d), q.2)) :
    ∀ (ps : List (Int × Int)) (t l : Int), (∀ p ∈ ps, 0 ≤ p.2 ∧ p.2 ≤ 1000000) → 0 ≤ l ∧ l ≤ 1000000 → Yld (forN B ps (t, l)) (fun s => ∃ l', s = (t + chg u d l ps, l'))
  | [], t, l, _, _ => ⟨_, forN_nil, l, by rw [show chg u d l [] = 0 from rfl, Int.add_zero]⟩
  | p :: r, t, l, hp, hl => by
    have h := hp p List.mem_cons_self
    rw [forN_cons, hB p t l h hl, rb_ok]
    refine y_mono (cg_loop hB r (t + (p.2 - l) * max 0 (u - p.1 * d)) p.2 (fun q m => hp q (List.mem_cons_of_mem _ m)) h) fun s hs => ?_
    obtain ⟨l', rfl⟩ := hs
    exact ⟨l', by rw [Int.add_assoc]; rfl⟩
theorem charge_eq (s u d : Int) {ps : List (Int × Int)} (hb : ∀ p ∈ ps, 0 ≤ p.2 ∧ p.2 ≤ 1000000) : t_Tariff_charge ⟨s, ps⟩ u d = if okU u d then .ok (cg s ps u d) else .err "OutOfRange" [] := by
  unfold t_Tariff_charge
  rw [check_use_eq]
  by_cases h : okU u d
  · rw [if_pos h, if_pos h]
    simp only [rb_ok, letR_eq, mulD h.2]
    refine y_get (y_bind (cg_loop (u := u) (d := d) (fun q t l hq hl => ?_) ps (s * d) 0 hb ⟨by omega, by omega⟩) fun s' h => y_ok (by obtain ⟨_, rfl⟩ := h; rfl))
    have e2 : ∀ x, mulR (q.2 - l) x = .ok ((q.2 - l) * x) := fun x => mulR_l ⟨by omega, by omega⟩
    simp only [mulD h.2, rb_ok, e2]
  · rw [if_neg h, if_neg h]; rfl
theorem Good.prb {ps : List (Int × Int)} (g : Good ps) : ∀ p ∈ ps, 0 ≤ p.2 ∧ p.2 ≤ 1000000 := fun p m => (g.b p m).2.2
theorem Good.cg {ps : List (Int × Int)} (g : Good ps) (s : Int) {u d : Int} (h : okU u d) : t_Tariff_charge ⟨s, ps⟩ u d = .ok (cg s ps u d) := by rw [charge_eq s u d g.prb, if_pos h]
/-! a tariff that is made -/
theorem ck_loop {B : Int × Int → Int → Res Int} (hB : ∀ q l, ¬ (l < 0 ∧ q.1 ≠ 0 ∨ q.1 ≤ l) → ¬ (1000000 < q.1 ∨ ¬ (0 ≤ q.2 ∧ q.2 ≤ 1000000)) → B q l = .ok q.1) :
    ∀ (ps : List (Int × Int)) (l : Int), Up ps → (∀ p ∈ ps, l < p.1 ∧ p.1 ≤ 1000000 ∧ 0 ≤ p.2 ∧ p.2 ≤ 1000000) → (l < 0 → ∀ p ∈ ps.head?, p.1 = 0) → Yld (forN B ps l) (fun _ => True)
  | [], l, _, _, _ => ⟨l, rfl, trivial⟩
  | p :: r, l, hu, hb, hz => by
    have h := hb p List.mem_cons_self
    have ih := ck_loop hB r p.1 hu.2 (fun q m => ⟨hu.1 q m, (hb q (List.mem_cons_of_mem _ m)).2⟩) fun c => by
      exfalso
      by_cases d : l < 0
      · have := hz d p (by simp); omega
      · omega
    rw [forN_cons, hB p l (by
      rintro (⟨c, c2⟩ | c)
      · exact c2 (hz c p (by simp))
      · omega) (by omega), rb_ok]
    exact ih
theorem steps_fine {ps : List (Int × Int)} (g : Good ps) : t_check_steps ps = .ok () := by
  obtain ⟨p0, r, e0, z⟩ := g.z
  have gl := g.len
  unfold t_check_steps
  have ne : ps.isEmpty = false := by rw [e0]; rfl
  rw [ne, if_neg (by simp), if_neg (by simp; omega), letR_eq]
  refine y_get (y_bind (ck_loop (fun q l h1 h2 => ?_) ps (-1) g.up (fun p m => by have := g.b p m; omega) (fun _ p m => by rw [e0] at m; simp at m; subst m; exact z)) fun _ _ => y_ok rfl)
  rw [if_neg (by simpa [not_or] using h1), if_neg (by simpa [not_or] using h2)]; rfl
theorem made {s : Int} {ps : List (Int × Int)} (hs : 0 ≤ s ∧ s ≤ 1000000) (g : Good ps) : t_Tariff___init__ s ps = .ok ⟨s, ps⟩ := by
  unfold t_Tariff___init__
  rw [if_neg (by simp [hs.1, hs.2]), steps_fine g]
  rfl
/-! steps that are drawn -/
structure Drawn (n : Nat) (us pr : List Int) : Prop where
  ul : us.length = max 1 n
  pl : pr.length = n
  ub : us.Pairwise (· < ·)
  u0 : us.head? = some 0
  um : ∀ u ∈ us, 0 ≤ u
  pb : ∀ p ∈ pr, 0 ≤ p ∧ p ≤ 1000000
theorem last_ok {us : List Int} {n : Nat} (h : us.length = max 1 n) : ∃ v, us.getLast? = some v ∧ ixR us (-1) = .ok v := by
  have hn : us ≠ [] := fun z => by rw [z] at h; simp at h; omega
  obtain ⟨v, hv⟩ : ∃ v, us.getLast? = some v := ⟨us.getLast hn, List.getLast?_eq_some_getLast hn⟩
  exact ⟨v, hv, ixR_last hv⟩
theorem snoc_asc {us : List Int} {v w : Int} (h : us.Pairwise (· < ·)) (hl : us.getLast? = some v) (hv : v < w) : (us ++ [w]).Pairwise (· < ·) := by
  rw [List.pairwise_append]
  refine ⟨h, by simp, fun a ha b hb => ?_⟩
  rw [List.mem_singleton] at hb
  subst hb
  have hn : us ≠ [] := fun z => by rw [z] at hl; cases hl
  rw [← List.dropLast_concat_getLast hn] at ha h
  have e : us.getLast hn = v := by rw [List.getLast?_eq_some_getLast hn] at hl; exact Option.some.inj hl
  rcases List.mem_append.mp ha with ha | ha
  · have := (List.pairwise_append.mp h).2.2 a ha v (by rw [e]; simp); omega
  · rw [List.mem_singleton, e] at ha; omega
theorem zip_up : ∀ {us pr : List Int}, us.Pairwise (· < ·) → Up (us.zip pr)
  | [], _, _ => trivial
  | _ :: _, [], _ => trivial
  | u :: us, p :: pr, h => by
    obtain ⟨h1, h2⟩ := List.pairwise_cons.mp h
    exact ⟨fun q m => h1 q.1 (List.of_mem_zip m).1, zip_up h2⟩
theorem zip_ok {n : Nat} (hc : 1 ≤ n ∧ n ≤ 8) (us pr : List Int) (h1 : us.length = n) (h2 : us.Pairwise (· < ·)) (h3 : us.head? = some 0) (h4 : ∀ u ∈ us, 0 ≤ u ∧ u ≤ 1000000) (h5 : pr.length = n) (h6 : ∀ p ∈ pr, 0 ≤ p ∧ p ≤ 1000000) :
    Yld ((mapR (fun q => (ixR us q).bind fun v => (ixR pr q).bind fun x => .ok (v, x)) (rgI 0 n)).bind lenG) (fun ps => Good ps ∧ ps.length = n) := by
  refine ⟨us.zip pr, ?_, ⟨zip_up h2, fun p m => ?_, ?_, ?_⟩, ?_⟩
  · have e : us.zip pr = (rgI 0 n).map fun q => (us.getD q.toNat 0, pr.getD q.toNat 0) := by
      refine List.ext_getElem (by rw [List.length_zip, List.length_map, rgI_len, h1, h5]; omega) fun i a b => ?_
      have hi : i < n := by rw [List.length_zip, h1, h5] at a; omega
      rw [List.getElem_map, List.getElem_zip]
      have g := rgI_get (lo := 0) hi
      rw [List.getElem?_eq_getElem (by rw [rgI_len]; omega)] at g
      rw [Option.some.inj g]
      simp only [List.getD_eq_getElem?_getD]
      have z : ((0 : Int) + (i : Int)).toNat = i := by omega
      rw [z, List.getElem?_eq_getElem (by omega), List.getElem?_eq_getElem (by omega)]; rfl
    rw [mapR_ok (g := fun q => (us.getD q.toNat 0, pr.getD q.toNat 0)) (fun q m => by
      obtain ⟨q1, q2⟩ := mem_rgI.mp m
      have a1 : ixR us q = .ok (us.getD q.toNat 0) := ixR_int q1 (by rw [List.getD_eq_getElem?_getD, List.getElem?_eq_getElem (by omega)]; rfl)
      have a2 : ixR pr q = .ok (pr.getD q.toNat 0) := ixR_int q1 (by rw [List.getD_eq_getElem?_getD, List.getElem?_eq_getElem (by omega)]; rfl)
      rw [a1, a2]; rfl), rb_ok, ← e, lenG_le (by rw [List.length_zip]; omega)]
  · have := List.of_mem_zip m
    have a := h4 p.1 this.1
    have b := h6 p.2 this.2
    exact ⟨a.1, a.2, b.1, b.2⟩
  · cases us with
    | nil => cases h3
    | cons u us =>
      cases pr with
      | nil => simp at h1 h5; omega
      | cons p pr => exact ⟨(u, p), us.zip pr, rfl, by simpa using h3⟩
  · rw [List.length_zip]; omega
  · rw [List.length_zip]; omega
theorem steps_ok (row : List Int) (at_ c w m : Int) (hw : w = 0 ∨ w = 1) (hc : 1 ≤ c ∧ c ≤ 8) (ha : 0 ≤ at_ ∧ at_ + 3 * c ≤ (row.length : Int)) : Yld (t__law_steps row at_ c w m) (fun ps => Good ps ∧ (ps.length : Int) = c) := by
  unfold t__law_steps
  obtain ⟨n, rfl⟩ : ∃ n : Nat, c = (n : Int) := ⟨c.toNat, by omega⟩
  simp only [letR_eq, rg1R_nat (show n < 4611686018427387904 by omega), rb_ok, rb_bind_ok]
  obtain ⟨w1, ew1, hw1⟩ := two_ok (a := 6) (b := 1000000) hw
  obtain ⟨w2, ew2, hw2⟩ := two_ok (a := 10) (b := 1000001) hw
  refine y_bind (y_forR (fun k s => Drawn k s.1 s.2 ∧ ∀ u ∈ s.1, u ≤ 1000001 - (n : Int) + k - 1 ∨ (k = 0 ∧ u = 0)) ⟨⟨by simp, rfl, by simp, rfl, by simp, by simp⟩, by simp⟩ (fun k s hk hs => ?_)) fun s hs => ?_
  rotate_left
  · obtain ⟨hs, hub⟩ := hs
    obtain ⟨us, pr⟩ := s
    have hul : us.length = n := by have := hs.ul; simp at this; omega
    have ub : ∀ u ∈ us, 0 ≤ u ∧ u ≤ 1000000 := fun u m => ⟨hs.um u m, by rcases hub u m with h | ⟨h, _⟩ <;> omega⟩
    have sp := sortI_perm pr
    by_cases m1 : m = 1
    · simp only [if_pos (show decide (m = 1) = true by simp [m1]), rb_ok, if_neg (show ¬ decide (m = 2) = true by simp [m1])]
      exact y_mono (zip_ok (by omega) us (sortI pr) hul hs.ub hs.u0 ub (by rw [sp.length_eq]; exact hs.pl) fun p hp => hs.pb p (sp.mem_iff.mp hp)) fun ps q => ⟨q.1, by rw [q.2]⟩
    · simp only [if_neg (show ¬ decide (m = 1) = true by simp [m1]), rb_ok]
      by_cases m2 : m = 2
      · simp only [if_pos (show decide (m = 2) = true by simp [m2]), rb_ok]
        exact y_mono (zip_ok (by omega) us (sortI pr).reverse hul hs.ub hs.u0 ub (by rw [List.length_reverse, sp.length_eq]; exact hs.pl) fun p hp => hs.pb p (sp.mem_iff.mp (List.mem_reverse.mp hp))) fun ps q => ⟨q.1, by rw [q.2]⟩
      · simp only [if_neg (show ¬ decide (m = 2) = true by simp [m2]), rb_ok]
        exact y_mono (zip_ok (by omega) us pr hul hs.ub hs.u0 ub hs.pl hs.pb) fun ps q => ⟨q.1, by rw [q.2]⟩
  · obtain ⟨us, pr⟩ := s
    obtain ⟨hs, hub⟩ := hs
    have hpl : pr.length = k := hs.pl
    have hul : us.length = max 1 k := hs.ul
    obtain ⟨y, ey, y1, y2⟩ := at_ok row (at_ + 3 * (k : Int) + 1) w2 (by omega) (by omega) (by omega)
    obtain ⟨z, ez, z1, z2⟩ := at_ok row (at_ + 3 * (k : Int) + 2) 4 (by omega) (by omega) (by omega)
    have ap : appR pr y = .ok (pr ++ [y]) := appR_lt (by omega)
    have pb' : ∀ p ∈ pr ++ [y], 0 ≤ p ∧ p ≤ 1000000 := fun p hp => by
      rcases List.mem_append.mp hp with hp | hp
      · exact hs.pb p hp
      · rw [List.mem_singleton.mp hp]; omega
    replace hs : Drawn k us pr := hs
    replace hub : ∀ u ∈ us, u ≤ 1000001 - (n : Int) + k - 1 ∨ (k = 0 ∧ u = 0) := hub
    refine y_bind (P := fun us' : List Int => us'.length = k + 1 ∧ us'.Pairwise (· < ·) ∧ us'.head? = some 0 ∧ (∀ u ∈ us', 0 ≤ u) ∧ ∀ u ∈ us', u ≤ 1000001 - (n : Int) + (k + 1) - 1) (y_ifb (fun hk0 => ?_) fun hk0 => ?_) fun us' hu' => ?_
    · obtain ⟨v, hv, ev⟩ := last_ok hs.ul
      have vm : v ∈ us := List.mem_of_getLast? hv
      have v0 := hs.um v vm
      have vb := hub v vm
      obtain ⟨x, ex, x1, x2⟩ := at_ok row (at_ + 3 * (k : Int)) (min (1000001 - (n : Int) + (k : Int) - v) w1) (by omega) (by omega) (by omega)
      simp only [ev, rb_ok, ew1, ex]
      rw [appR_lt (by omega)]
      refine y_ok ⟨by simp; omega, snoc_asc hs.ub hv (by omega), by rw [List.head?_append, hs.u0]; rfl, fun u hu => ?_, fun u hu => ?_⟩
      · rcases List.mem_append.mp hu with hu | hu
        · exact hs.um u hu
        · rw [List.mem_singleton.mp hu]; omega
      · rcases List.mem_append.mp hu with hu | hu
        · rcases hub u hu with h | ⟨h, _⟩ <;> omega
        · rw [List.mem_singleton.mp hu]; omega
    · have k0 : k = 0 := by omega
      subst k0
      exact y_ok ⟨show us.length = 0 + 1 by omega, hs.ub, hs.u0, hs.um, fun u hu => by rcases hub u hu with h | ⟨_, h⟩ <;> omega⟩
    · obtain ⟨u1, u2, u3, u4, u5⟩ := hu'
      have D1 : ∀ q : List Int, q.length = k + 1 → (∀ p ∈ q, 0 ≤ p ∧ p ≤ 1000000) → Drawn (k + 1) us' q := fun q q1 q2 => ⟨by omega, q1, u2, u3, u4, q2⟩
      have U1 : ∀ u ∈ us', u ≤ 1000001 - (n : Int) + ((k + 1 : Nat) : Int) - 1 ∨ (k + 1 = 0 ∧ u = 0) := fun u hu => .inl (by have := u5 u hu; omega)
      simp only [ew2, rb_ok, ey, ap]
      by_cases hk0 : 0 < k
      · rw [if_pos (by simp; omega)]
        simp only [ez, rb_ok]
        by_cases hz : z = 1
        · have e1 : ixR (pr ++ [y]) ((k : Int) - 1) = .ok ((pr ++ [y]).getD (k - 1) 0) := ixR_int (by omega) (by
            rw [List.getD_eq_getElem?_getD, show ((k : Int) - 1).toNat = k - 1 by omega, List.getElem?_eq_getElem (by simp; omega)]; rfl)
          have e2 : setR (pr ++ [y]) (k : Int) ((pr ++ [y]).getD (k - 1) 0) = .ok ((pr ++ [y]).set k ((pr ++ [y]).getD (k - 1) 0)) := setR_nat (by simp; omega)
          rw [if_pos (by simpa using hz), e1, rb_ok, e2]
          refine y_ok ⟨D1 _ (by simp; omega) (fun p hp => ?_), U1⟩
          rcases List.mem_or_eq_of_mem_set hp with hp | hp
          · exact pb' p hp
          · rw [hp]
            refine pb' _ ?_
            rw [List.getD_eq_getElem?_getD, List.getElem?_eq_getElem (by simp; omega)]
            exact List.getElem_mem _
        · rw [if_neg (by simpa using hz)]
          exact y_ok ⟨D1 _ (by simp; omega) pb', U1⟩
      · rw [if_neg (by simp; omega), rb_ok, if_neg (by simp)]
        exact y_ok ⟨D1 _ (by simp; omega) pb', U1⟩
/-! the law's own lines -/
def eHd (u d : Int) : List (Int × Int) → Int
  | [] => u
  | q :: _ => min u (q.1 * d)
def lnOf (u d : Int) (p : Int × Int) (r : List (Int × Int)) : List (Int × Int) := if p.1 * d < eHd u d r then [(eHd u d r - p.1 * d, p.2)] else []
def lns (u d : Int) : List (Int × Int) → List (Int × Int)
  | [] => []
  | p :: r => lnOf u d p r ++ lns u d r
theorem lnOf_len (u d : Int) (p : Int × Int) (r : List (Int × Int)) : (lnOf u d p r).length ≤ 1 := by unfold lnOf; split <;> simp
theorem lns_len (u d : Int) : ∀ ps, (lns u d ps).length ≤ ps.length
  | [] => Nat.le_refl _
  | p :: r => by
    have := lnOf_len u d p r
    have := lns_len u d r
    simp only [lns, List.length_append, List.length_cons]
    omega
theorem lns_price (u d : Int) : ∀ (ps : List (Int × Int)), (∀ p ∈ ps, 0 ≤ p.2 ∧ p.2 ≤ 1000000) → ∀ q ∈ lns u d ps, 0 ≤ q.2 ∧ q.2 ≤ 1000000
  | [], _, q, h => nomatch h
  | p :: r, hb, q, h => by
    rcases List.mem_append.mp (show q ∈ lnOf u d p r ++ lns u d r from h) with h | h
    · unfold lnOf at h
      split at h
      · rw [List.mem_singleton.mp h]; exact hb p List.mem_cons_self
      · cases h
    · exact lns_price u d r (fun q m => hb q (List.mem_cons_of_mem _ m)) q h
theorem lines_eq (s : Int) (ps : List (Int × Int)) (u d : Int) (hd : 1 ≤ d ∧ d ≤ 400) (hl : ps.length ≤ 1000) : t__law_lines s ps d u = .ok ((d, s) :: lns u d ps) := by
  unfold t__law_lines
  simp only [letR_eq, rg1R_nat (show ps.length < 4611686018427387904 by omega), rb_ok]
  refine y_get (y_bind (y_forR (fun k s' => ∃ M, s' = (d, s) :: M ∧ M ++ lns u d (ps.drop k) = lns u d ps ∧ M.length ≤ k) ⟨[], rfl, rfl, by simp⟩ (fun k s' hk hs => ?_)) fun s' h => y_ok ?_)
  rotate_left
  · obtain ⟨M, rfl, h3, _⟩ := h
    rw [List.drop_eq_nil_of_le (Nat.le_refl _)] at h3
    rw [← h3]; simp [lns]
  · obtain ⟨M, rfl, h1, h2⟩ := hs
    have ek : ps.drop k = ps[k] :: ps.drop (k + 1) := List.drop_eq_getElem_cons hk
    have ix : ixR ps (k : Int) = .ok ps[k] := ixR_nat (List.getElem?_eq_getElem hk)
    generalize ps[k] = p at ek ix
    obtain ⟨E, hE, eE⟩ : ∃ E, eHd u d (ps.drop (k + 1)) = E ∧ (if decide ((k : Int) + 1 < (ps.length : Int)) = true then (((ixR ps ((k : Int) + 1)).bind fun v => Res.ok v.1).bind fun v => mulR v d).bind fun v => Res.ok (min u v) else Res.ok u) = .ok E := by
      by_cases c : k + 1 < ps.length
      · have ek2 : ps.drop (k + 1) = ps[k + 1] :: ps.drop (k + 2) := List.drop_eq_getElem_cons c
        have ix2 : ixR ps ((k : Int) + 1) = .ok ps[k + 1] := by
          have := ixR_nat (xs := ps) (n := k + 1) (List.getElem?_eq_getElem c)
          rwa [show ((k + 1 : Nat) : Int) = (k : Int) + 1 by omega] at this
        refine ⟨min u (ps[k + 1].1 * d), by rw [ek2]; rfl, ?_⟩
        rw [if_pos (by simp; omega), ix2]
        simp only [rb_ok, mulD hd]
      · refine ⟨u, by rw [List.drop_eq_nil_of_le (by omega)]; rfl, ?_⟩
        rw [if_neg (by simp; omega)]
    rw [ek] at h1
    have z : lnOf u d p (ps.drop (k + 1)) = if p.1 * d < E then [(E - p.1 * d, p.2)] else [] := by unfold lnOf; rw [hE]
    have h1 : M ++ (lnOf u d p (ps.drop (k + 1)) ++ lns u d (ps.drop (k + 1))) = lns u d ps := h1
    simp only [rb_bind_ok] at eE ⊢
    rw [eE]
    simp only [rb_ok, ix, mulD hd]
    by_cases c : p.1 * d < E
    · rw [z, if_pos c, ← List.append_assoc] at h1
      refine ⟨(d, s) :: (M ++ [(E - p.1 * d, p.2)]), ?_, _, rfl, h1, by simp; omega⟩
      rw [if_pos (by simpa using c), appR_lt (by simp; omega)]; rfl
    · rw [z, if_neg c] at h1
      refine ⟨(d, s) :: M, by rw [if_neg (by simpa using c)], M, rfl, by simpa using h1, by omega⟩
theorem sum_map_cons {p : Int × Int} {L : List (Int × Int)} : ((p :: L).map fun q => q.1 * q.2).sum = p.1 * p.2 + (L.map fun q => q.1 * q.2).sum := by simp
theorem mul_lt {a b d : Int} (h : a < b) (hd : 1 ≤ d) : a * d < b * d := Int.mul_lt_mul_of_pos_right h (by omega)
theorem chg_lns (u d : Int) (hd : 1 ≤ d) : ∀ (ps : List (Int × Int)) (l : Int), Up ps → chg u d l ps = ((lns u d ps).map fun q => q.1 * q.2).sum - l * (match ps with | [] => 0 | p :: _ => max 0 (u - p.1 * d))
  | [], l, _ => by simp [chg, lns]
  | [p], l, _ => by
    have e0 : lns u d [p] = if p.1 * d < u then [(u - p.1 * d, p.2)] else [] := by simp only [lns, List.append_nil]; rfl
    rw [e0]
    simp only [chg, Int.sub_mul]
    by_cases c : p.1 * d < u
    · rw [if_pos c, show max 0 (u - p.1 * d) = u - p.1 * d by omega]
      simp [Int.mul_comm p.2]
    · rw [if_neg c, show max 0 (u - p.1 * d) = 0 by omega]
      simp
  | p :: q :: r, l, h => by
    have ih := chg_lns u d hd (q :: r) p.2 h.2
    have hpq := mul_lt (h.1 q List.mem_cons_self) hd
    have e1 : chg u d l (p :: q :: r) = (p.2 - l) * max 0 (u - p.1 * d) + chg u d p.2 (q :: r) := rfl
    have e2 : lns u d (p :: q :: r) = lnOf u d p (q :: r) ++ lns u d (q :: r) := rfl
    rw [e1, ih, e2, List.map_append, List.sum_append, Int.sub_mul]
    have z : ((lnOf u d p (q :: r)).map fun q => q.1 * q.2).sum = p.2 * max 0 (u - p.1 * d) - p.2 * max 0 (u - q.1 * d) := by
      unfold lnOf
      have hE : eHd u d (q :: r) = min u (q.1 * d) := rfl
      rw [hE]
      by_cases c1 : q.1 * d < u
      · rw [show min u (q.1 * d) = q.1 * d by omega, if_pos hpq, show max 0 (u - p.1 * d) = u - p.1 * d by omega, show max 0 (u - q.1 * d) = u - q.1 * d by omega]
        simp only [List.map_cons, List.map_nil, List.sum_cons, List.sum_nil, Int.add_zero, ← Int.mul_sub]
        rw [Int.mul_comm]; congr 1; omega
      · rw [show min u (q.1 * d) = u by omega, show max 0 (u - q.1 * d) = 0 by omega]
        by_cases c2 : p.1 * d < u
        · rw [if_pos c2, show max 0 (u - p.1 * d) = u - p.1 * d by omega]
          simp [Int.mul_comm p.2]
        · rw [if_neg c2, show max 0 (u - p.1 * d) = 0 by omega]; simp
    rw [z]
    simp only
    omega
theorem law_charge_ok {ps : List (Int × Int)} (g : Good ps) {s : Int} (hs : 0 ≤ s ∧ s ≤ 1000000) {u d : Int} (hd : 1 ≤ d ∧ d ≤ 400) : t__law_charge s ps d u = .ok (cg s ps u d) := by
  unfold t__law_charge
  have gl := g.len
  rw [lines_eq s ps u d hd (by omega), rb_ok, mapR_ok (g := fun q : Int × Int => q.1 * q.2) (fun q m => by
    rcases List.mem_cons.mp m with e | m
    · subst e; exact mulR_r ⟨by show -18446744073709551616 < s; omega, by show s < 18446744073709551616; omega⟩
    · have := lns_price u d ps g.prb q m; exact mulR_r ⟨by omega, by omega⟩), rb_ok, lenG_le (by have := lns_len u d ps; simp; omega), rb_ok]
  rw [sum_map_cons, cg, chg_lns u d hd.1 ps 0 g.up, Int.mul_comm s d]
  simp

def okF (d T : Int) : Prop := (1 ≤ d ∧ d ≤ 400) ∧ (0 ≤ T ∧ T ≤ 1000000000)
instance (d T : Int) : Decidable (okF d T) := by unfold okF; infer_instance
theorem frame_eq (d T : Int) : t_check_frame d T = if okF d T then .ok () else .err "OutOfRange" [] := by
  unfold t_check_frame okF
  by_cases h1 : 1 ≤ d <;> by_cases h2 : d ≤ 400 <;> by_cases h3 : 0 ≤ T <;> by_cases h4 : T ≤ 1000000000 <;> simp [h1, h2, h3, h4]
def us (ps qs : List (Int × Int)) : List Int := ps.map (·.1) ++ qs.map (·.1)
def cor (ps qs : List (Int × Int)) (d T : Int) : List Int := setI ([0, T] ++ ((us ps qs).filter fun q => decide (q * d ≤ T)).map (· * d))
theorem mem_us {ps qs : List (Int × Int)} {u : Int} : u ∈ us ps qs ↔ ∃ p ∈ ps ++ qs, p.1 = u := by
  unfold us
  rw [← List.map_append, List.mem_map]
theorem mem_cor {ps qs : List (Int × Int)} {d T k : Int} : k ∈ cor ps qs d T ↔ k = 0 ∨ k = T ∨ ∃ p ∈ ps ++ qs, k = p.1 * d ∧ k ≤ T := by
  unfold cor
  rw [mem_setI, List.mem_append, List.mem_map]
  constructor
  · rintro (h | ⟨u, h, rfl⟩)
    · simp at h; rcases h with h | h
      · exact .inl h
      · exact .inr (.inl h)
    · rw [List.mem_filter, mem_us] at h
      obtain ⟨⟨p, m, rfl⟩, c⟩ := h
      exact .inr (.inr ⟨p, m, rfl, by simpa using c⟩)
  · rintro (h | h | ⟨p, m, rfl, c⟩)
    · exact .inl (by simp [h])
    · exact .inl (by simp [h])
    · exact .inr ⟨p.1, by rw [List.mem_filter, mem_us]; exact ⟨⟨p, m, rfl⟩, by simpa using c⟩, rfl⟩
theorem corners_eq {ps qs : List (Int × Int)} (g1 : Good ps) (g2 : Good qs) (s1 s2 d T : Int) : t_corners_of ⟨s1, ps⟩ ⟨s2, qs⟩ d T = if okF d T then .ok (cor ps qs d T) else .err "OutOfRange" [] := by
  unfold t_corners_of
  rw [frame_eq]
  by_cases h : okF d T
  · have l1 := g1.len
    have l2 := g2.len
    have lu : (us ps qs).length = ps.length + qs.length := by simp [us]
    have lf : (((us ps qs).filter fun q => decide (q * d ≤ T)).map (· * d)).length ≤ 16 := by
      rw [List.length_map]
      have := List.length_filter_le (fun q => decide (q * d ≤ T)) (us ps qs)
      omega
    rw [if_pos h, if_pos h, rb_ok, lenG_le (by simp; omega), rb_ok, lenG_le (by simp; omega), rb_ok, catR_le (by simp; omega), rb_ok]
    show (((compR _ _ (us ps qs)).bind lenG).bind _).bind _ = _
    rw [compR_ok (q := fun q => decide (q * d ≤ T)) (g := (· * d)) (fun q m => by rw [mulD h.1, rb_ok]) (fun q m _ => mulD h.1), rb_ok, lenG_le (by omega), rb_ok, catR_le (by simp only [List.length_cons, List.length_nil]; omega), rb_ok]
    exact setT_ok (by rw [List.length_append]; simp only [List.length_cons, List.length_nil]; omega)
  · rw [if_neg h, if_neg h]; rfl
theorem Good.n {ps : List (Int × Int)} (g : Good ps) {d : Int} (hd : 1 ≤ d ∧ d ≤ 400) : ∀ p ∈ ps, 0 ≤ p.1 * d ∧ p.1 * d ≤ 400000000 := fun p m => by
  have h := g.b p m
  refine ⟨Int.mul_nonneg h.1 (by omega), ?_⟩
  have : p.1 * d ≤ 1000000 * 400 := Int.mul_le_mul h.2.1 hd.2 (by omega) (by omega)
  omega
theorem cor_T0 {ps qs : List (Int × Int)} (g1 : Good ps) (g2 : Good qs) {d : Int} (hd : 1 ≤ d ∧ d ≤ 400) : cor ps qs d 0 = [0] := by
  refine asc_uniq (setI_asc _) (by simp) fun k => ?_
  rw [mem_cor, List.mem_singleton]
  constructor
  · rintro (h | h | ⟨p, m, h, c⟩)
    · exact h
    · exact h
    · have : 0 ≤ p.1 * d := by
        rcases List.mem_append.mp m with m | m
        · exact (g1.n hd p m).1
        · exact (g2.n hd p m).1
      omega
  · exact .inl
theorem prc_const {c d : Int} : ∀ {ps : List (Int × Int)} {l : Int}, (∀ p ∈ ps, c < p.1 * d) → prc c d l ps = l
  | [], _, _ => rfl
  | p :: r, l, h => by
    have := h p List.mem_cons_self
    rw [prc, if_neg (by omega)]
    exact prc_const fun q m => h q (List.mem_cons_of_mem _ m)
theorem chg_affine {c x d : Int} (hd : 1 ≤ d) (hx : c ≤ x) : ∀ {ps : List (Int × Int)} {l : Int}, Up ps → (∀ p ∈ ps, p.1 * d ≤ c ∨ x ≤ p.1 * d) → chg x d l ps = chg c d l ps + (prc c d l ps - l) * (x - c)
  | [], l, _, _ => by simp [chg, prc]
  | p :: r, l, hu, h => by
    have ih := chg_affine hd hx (l := p.2) hu.2 fun q m => h q (List.mem_cons_of_mem _ m)
    simp only [chg, prc]
    rw [ih]
    by_cases z : p.1 * d ≤ c
    · rw [if_pos z, show max 0 (x - p.1 * d) = x - p.1 * d by omega, show max 0 (c - p.1 * d) = c - p.1 * d by omega]
      grind
    · have up : ∀ q ∈ r, c < q.1 * d := fun q m => by have := mul_lt (hu.1 q m) hd; omega
      have := h p List.mem_cons_self
      rw [if_neg z, show max 0 (x - p.1 * d) = 0 by omega, show max 0 (c - p.1 * d) = 0 by omega, prc_const up, prc_const up]
      grind
def ext (s1 : Int) (ps : List (Int × Int)) (s2 : Int) (qs : List (Int × Int)) (d x : Int) : Int := cg s1 ps x d - cg s2 qs x d
def slo (ps qs : List (Int × Int)) (d x : Int) : Int := prc x d 0 ps - prc x d 0 qs
theorem ext_affine {ps qs : List (Int × Int)} (g1 : Good ps) (g2 : Good qs) (s1 s2 : Int) {d c x : Int} (hd : 1 ≤ d) (hx : c ≤ x) (h : ∀ p ∈ ps ++ qs, p.1 * d ≤ c ∨ x ≤ p.1 * d) : ext s1 ps s2 qs d x = ext s1 ps s2 qs d c + slo ps qs d c * (x - c) := by
  unfold ext slo cg
  rw [chg_affine hd hx (l := 0) g1.up fun p m => h p (List.mem_append_left _ m), chg_affine hd hx (l := 0) g2.up fun p m => h p (List.mem_append_right _ m)]
  grind
theorem asc_get {C : List Int} (h : C.Pairwise (· < ·)) {i j : Nat} (hi : i < j) (hj : j < C.length) : C[i]'(by omega) < C[j] := List.pairwise_iff_getElem.mp h i j (by omega) hj hi
theorem cover : ∀ {C : List Int} {x : Int} (h : 0 < C.length), C[0] ≤ x → ∃ k, ∃ hk : k < C.length, C[k] ≤ x ∧ ∀ h2 : k + 1 < C.length, x < C[k + 1]
  | [], _, h, _ => by simp at h
  | [a], x, h, c => ⟨0, by simp, c, fun h2 => by simp at h2⟩
  | a :: b :: r, x, h, c => by
    by_cases z : x < b
    · exact ⟨0, by simp, c, fun _ => z⟩
    · obtain ⟨k, hk, k1, k2⟩ := cover (C := b :: r) (x := x) (by simp) (show b ≤ x by omega)
      exact ⟨k + 1, by simpa using hk, k1, fun h2 => k2 (by simpa using h2)⟩
theorem filter_first {C : List Int} {p : Int → Bool} {k : Nat} (hk : k < C.length) (h1 : ∀ j, ∀ hj : j < k, p (C[j]'(by omega)) = false) (h2 : p C[k] = true) : ∃ r, C.filter p = C[k] :: r := by
  refine ⟨(C.drop (k + 1)).filter p, ?_⟩
  conv => lhs; rw [← List.take_append_drop k C, List.drop_eq_getElem_cons hk]
  rw [List.filter_append, List.filter_cons_of_pos h2, List.filter_eq_nil_iff.mpr]
  · rfl
  · intro a m
    obtain ⟨j, hj, e⟩ := List.getElem_of_mem m
    rw [List.length_take] at hj
    rw [List.getElem_take] at e
    rw [← e, h1 j (by omega)]; simp
/-! ### regrets -/
abbrev Pl := Int × List (Int × Int)
def GP (p : Pl) : Prop := (0 ≤ p.1 ∧ p.1 ≤ 1000000) ∧ Good p.2
def Tf (ps : List Pl) : List Tariff := ps.map fun p => ⟨p.1, p.2⟩
def chs (ps : List Pl) (d u : Int) : List Int := ps.map fun p => cg p.1 p.2 u d
def mnC (ps : List Pl) (d u : Int) : Int := match chs ps d u with
  | [] => 0
  | n :: ns => minL n ns
def rgt (ps : List Pl) (k : Nat) (d u : Int) : Int := (chs ps d u).getD k 0 - mnC ps d u
theorem mnC_min {ps : List Pl} (h : ps ≠ []) (d u : Int) : minT (chs ps d u) = .ok (mnC ps d u) := by
  unfold mnC
  cases z : chs ps d u with
  | nil => exact absurd (List.map_eq_nil_iff.mp z) h
  | cons n ns => rfl
theorem mnC_spec {ps : List Pl} (h : ps ≠ []) (d u : Int) : (∃ p ∈ ps, mnC ps d u = cg p.1 p.2 u d) ∧ ∀ p ∈ ps, mnC ps d u ≤ cg p.1 p.2 u d := by
  unfold mnC
  cases z : chs ps d u with
  | nil => exact absurd (List.map_eq_nil_iff.mp z) h
  | cons n ns =>
    obtain ⟨h1, h2⟩ := minL_spec n ns
    rw [← z] at h1 h2
    refine ⟨?_, fun p m => h2 _ (List.mem_map_of_mem m)⟩
    obtain ⟨p, m, e⟩ := List.mem_map.mp h1
    exact ⟨p, m, e.symm⟩
theorem getD_chs {ps : List Pl} {k : Nat} (hk : k < ps.length) (d u : Int) : (chs ps d u).getD k 0 = cg ps[k].1 ps[k].2 u d := by
  unfold chs
  rw [List.getD_eq_getElem?_getD, List.getElem?_map, List.getElem?_eq_getElem hk]; rfl
theorem plain_eq {ps : List Pl} (g : ∀ p ∈ ps, GP p) {k : Nat} (hk : k < ps.length) (hl : ps.length ≤ 100) {d u : Int} (h : okU u d) : t_plain_regret (Tf ps) (k : Int) d u = .ok (rgt ps k d u) := by
  unfold t_plain_regret
  have ix : ixR (Tf ps) (k : Int) = .ok ⟨ps[k].1, ps[k].2⟩ := ixR_nat (by unfold Tf; rw [List.getElem?_map, List.getElem?_eq_getElem hk]; rfl)
  have mp : mapR (fun q => t_Tariff_charge q u d) (Tf ps) = .ok (chs ps d u) := by
    rw [mapR_ok (g := fun q : Tariff => cg q.standing_ q.steps_ u d) (fun q m => by
      obtain ⟨p, mp, rfl⟩ := List.mem_map.mp m
      exact (g p mp).2.cg p.1 h)]
    unfold Tf chs
    rw [List.map_map]; rfl
  rw [ix, rb_ok, (g _ (List.getElem_mem hk)).2.cg _ h, rb_ok, mp, rb_ok, lenG_le (by unfold chs; simp; omega), rb_ok, mnC_min (by intro z; rw [z] at hk; simp at hk), rb_ok]
  unfold rgt
  rw [getD_chs hk]
theorem lregret_eq {ps : List Pl} (g : ∀ p ∈ ps, GP p) {k : Nat} (hk : k < ps.length) (hl : ps.length ≤ 100) {d : Int} (hd : 1 ≤ d ∧ d ≤ 400) (u : Int) : t__law_regret ps (k : Int) d u = .ok (rgt ps k d u) := by
  unfold t__law_regret
  rw [mapR_ok (g := fun p : Pl => cg p.1 p.2 u d) (fun p m => law_charge_ok (g p m).2 (g p m).1 hd), rb_ok, lenG_le (by simp; omega), rb_ok]
  have hkc : k < (chs ps d u).length := by unfold chs; simpa using hk
  have ix : ixR (chs ps d u) (k : Int) = .ok ((chs ps d u).getD k 0) := ixR_nat (by rw [List.getD_eq_getElem?_getD, List.getElem?_eq_getElem hkc]; rfl)
  show (ixR (chs ps d u) (k : Int)).bind _ = _
  rw [ix, rb_ok]
  show (minT (chs ps d u)).bind _ = _
  rw [mnC_min (by intro z; rw [z] at hk; simp at hk), rb_ok]; rfl
/-! the first greatest -/
structure FM (f : Int → Int) (S : Int → Prop) (b : Int × Int) : Prop where
  m : S b.2
  e : f b.2 = b.1
  le : ∀ u, S u → f u ≤ b.1
  lt : ∀ u, S u → u < b.2 → f u < b.1
theorem FM.uniq {f : Int → Int} {S : Int → Prop} {b c : Int × Int} (h : FM f S b) (h' : FM f S c) : b = c := by
  have a1 := h.le _ h'.m
  have a2 := h'.le _ h.m
  rw [h'.e] at a1
  rw [h.e] at a2
  have e1 : b.1 = c.1 := by omega
  have e2 : b.2 = c.2 := by
    rcases Int.lt_trichotomy b.2 c.2 with z | z | z
    · have := h'.lt _ h.m z; rw [h.e] at this; omega
    · exact z
    · have := h.lt _ h'.m z; rw [h'.e] at this; omega
  exact Prod.ext e1 e2
theorem FM.iff {f : Int → Int} {S S' : Int → Prop} {b : Int × Int} (h : FM f S b) (i : ∀ u, S u ↔ S' u) : FM f S' b := ⟨(i _).mp h.m, h.e, fun u z => h.le u ((i u).mpr z), fun u z => h.lt u ((i u).mpr z)⟩
theorem FM.cov {f : Int → Int} {S S' : Int → Prop} {b : Int × Int} (h : FM f S b) (i : ∀ u, S u → S' u) (c : ∀ u, S' u → ∃ p, S p ∧ ((p ≤ u ∧ f u ≤ f p) ∨ f u < f p)) : FM f S' b := by
  refine ⟨i _ h.m, h.e, fun u z => ?_, fun u z l => ?_⟩
  · obtain ⟨p, hp, ⟨_, q⟩ | q⟩ := c u z
    · have := h.le p hp; omega
    · have := h.le p hp; omega
  · obtain ⟨p, hp, ⟨q0, q⟩ | q⟩ := c u z
    · have := h.lt p hp (by omega); omega
    · have := h.le p hp; omega
theorem fm_loop {B : Int → Int × Int → Res (Int × Int)} {f : Int → Int} : ∀ (L : List Int) (P : Int → Prop) (b : Int × Int), (∀ q ∈ L, ∀ b : Int × Int, B q b = if b.1 < f q then .ok (f q, q) else .ok b) → FM f P b → (∀ u, P u → ∀ q ∈ L, u ≤ q) → L.Pairwise (· ≤ ·) →
    Yld (forN B L b) (fun c => FM f (fun u => P u ∨ u ∈ L) c)
  | [], P, b, _, h, _, _ => ⟨b, forN_nil, h.iff fun u => by simp⟩
  | x :: r, P, b, hB, h, hu, hp => by
    obtain ⟨p1, p2⟩ := List.pairwise_cons.mp hp
    have step : ∃ c, B x b = .ok c ∧ FM f (fun u => P u ∨ u = x) c := by
      rw [hB x List.mem_cons_self]
      by_cases c : b.1 < f x
      · rw [if_pos c]
        refine ⟨_, rfl, .inr rfl, rfl, fun u z => ?_, fun u z l => ?_⟩
        · rcases z with z | z
          · have := h.le u z; show f u ≤ f x; omega
          · rw [z]; exact Int.le_refl _
        · rcases z with z | z
          · have := h.le u z; show f u < f x; omega
          · have l : u < x := l; omega
      · rw [if_neg c]
        refine ⟨_, rfl, .inl h.m, h.e, fun u z => ?_, fun u z l => ?_⟩
        · rcases z with z | z
          · exact h.le u z
          · rw [z]; omega
        · rcases z with z | z
          · exact h.lt u z l
          · have := hu _ h.m x List.mem_cons_self; omega
    obtain ⟨c, ec, hc⟩ := step
    rw [forN_cons, ec, rb_ok]
    refine y_mono (fm_loop r (fun u => P u ∨ u = x) c (fun q m => hB q (List.mem_cons_of_mem _ m)) hc (fun u z q m => ?_) p2) fun b' hb => hb.iff fun u => by simp [or_assoc]
    rcases z with z | z
    · exact hu u z q (List.mem_cons_of_mem _ m)
    · rw [z]; exact p1 q m
/-! turning uses -/
def Bg (ps : List Pl) (d u : Int) : Prop := ∃ p ∈ ps, ∃ q ∈ p.2, u = q.1 * d
def Tn (ps : List Pl) (d lo hi u : Int) : Prop := u = lo ∨ u = hi ∨ (Bg ps d u ∧ lo ≤ u ∧ u ≤ hi)
theorem flt_loop {B : Int → List Int → Res (List Int)} {lo : Int} : ∀ (L s : List Int), (∀ q ∈ L, ∀ s : List Int, s.length < 1000 → B q s = if lo ≤ q then .ok (s ++ [q]) else .ok s) → s.length + L.length < 1000 → forN B L s = .ok (s ++ L.filter fun q => decide (lo ≤ q))
  | [], s, _, _ => by rw [forN_nil]; simp
  | q :: r, s, hB, h => by
    rw [List.length_cons] at h
    rw [forN_cons, hB q List.mem_cons_self s (by omega)]
    by_cases c : lo ≤ q
    · rw [if_pos c, rb_ok, flt_loop r _ (fun x m => hB x (List.mem_cons_of_mem _ m)) (by simp; omega), List.filter_cons_of_pos (by simpa using c)]
      simp
    · rw [if_neg c, rb_ok, flt_loop r _ (fun x m => hB x (List.mem_cons_of_mem _ m)) (by omega), List.filter_cons_of_neg (by simpa using c)]
theorem turning_eq {ps : List Pl} (g : ∀ p ∈ ps, GP p) {k : Nat} (hk : k < ps.length) {d lo hi : Int} (h : okF d hi) (hlo : 0 ≤ lo ∧ lo ≤ hi) {c : Nat} (hc : ∀ p ∈ ps, ∀ q ∈ ps, (cor p.2 q.2 d hi).length ≤ c) (hn : ps.length * c ≤ 61) :
    Yld (t_turning_uses (Tf ps) (k : Int) d lo hi) (fun L => L.Pairwise (· < ·) ∧ ∀ u, u ∈ L ↔ Tn ps d lo hi u) := by
  unfold t_turning_uses
  have ix : ixR (Tf ps) (k : Int) = .ok ⟨ps[k].1, ps[k].2⟩ := ixR_nat (by unfold Tf; rw [List.getElem?_map, List.getElem?_eq_getElem hk]; rfl)
  have gk := g _ (List.getElem_mem hk)
  rw [letR_eq]
  refine y_bind (y_forN (fun done (s : List Int) => s.length ≤ 2 + done.length * c ∧ ∀ u, u ∈ s ↔ u = lo ∨ u = hi ∨ ∃ t ∈ done, u ∈ cor ps[k].2 t.steps_ d hi ∧ lo ≤ u) ⟨by simp, fun u => by simp⟩ (fun done a rest s e hs => ?_)) fun s hs => ?_
  · have ma : a ∈ Tf ps := by rw [e]; simp
    obtain ⟨p, mp, rfl⟩ := List.mem_map.mp ma
    have hd : done.length + 1 ≤ ps.length := by
      have := congrArg List.length e
      rw [List.length_append, List.length_cons] at this
      unfold Tf at this; rw [List.length_map] at this; omega
    have cl := hc _ (List.getElem_mem hk) p mp
    have b1 : (done.length + 1) * c ≤ 61 := Nat.le_trans (Nat.mul_le_mul_right c hd) hn
    have b2 : (done.length + 1) * c = done.length * c + c := by rw [Nat.add_mul, Nat.one_mul]
    rw [ix, rb_ok, corners_eq gk.2 (g p mp).2, if_pos h, rb_ok]
    rw [flt_loop (lo := lo) _ s (fun q m s hl => by
      by_cases z : lo ≤ q
      · rw [if_pos (by simpa using z), if_pos z, appR_lt (by omega), rb_ok]
      · rw [if_neg (by simpa using z), if_neg z]) (by omega), rb_ok]
    refine y_ok ⟨?_, fun u => ?_⟩
    · have := List.length_filter_le (fun q => decide (lo ≤ q)) (cor ps[k].2 p.2 d hi)
      rw [List.length_append, List.length_append, List.length_singleton]
      omega
    · rw [List.mem_append, hs.2 u, List.mem_filter]
      constructor
      · rintro ((z | z | ⟨t, m, z⟩) | ⟨z, w⟩)
        · exact .inl z
        · exact .inr (.inl z)
        · exact .inr (.inr ⟨t, List.mem_append_left _ m, z⟩)
        · exact .inr (.inr ⟨_, List.mem_append_right _ (List.mem_singleton.mpr rfl), z, by simpa using w⟩)
      · rintro (z | z | ⟨t, m, z, w⟩)
        · exact .inl (.inl z)
        · exact .inl (.inr (.inl z))
        · rcases List.mem_append.mp m with m | m
          · exact .inl (.inr (.inr ⟨t, m, z, w⟩))
          · rw [List.mem_singleton.mp m] at z
            exact .inr ⟨z, by simpa using w⟩
  · have hl : s.length ≤ 63 := by
      have := hs.1
      unfold Tf at this; rw [List.length_map] at this; omega
    refine ⟨setI s, setT_ok (by omega), setI_asc s, fun u => ?_⟩
    rw [mem_setI, hs.2 u]
    unfold Tn Bg
    constructor
    · rintro (z | z | ⟨t, m, z, w⟩)
      · exact .inl z
      · exact .inr (.inl z)
      · obtain ⟨p, mp, rfl⟩ := List.mem_map.mp m
        rcases mem_cor.mp z with z | z | ⟨q, mq, z, z2⟩
        · exact .inl (by omega)
        · exact .inr (.inl z)
        · refine .inr (.inr ⟨?_, w, by omega⟩)
          rcases List.mem_append.mp mq with mq | mq
          · exact ⟨_, List.getElem_mem hk, q, mq, z⟩
          · exact ⟨p, mp, q, mq, z⟩
    · rintro (z | z | ⟨⟨p, mp, q, mq, z⟩, w1, w2⟩)
      · exact .inl z
      · exact .inr (.inl z)
      · exact .inr (.inr ⟨⟨p.1, p.2⟩, List.mem_map_of_mem (f := fun p : Pl => (⟨p.1, p.2⟩ : Tariff)) mp, mem_cor.mpr (.inr (.inr ⟨q, List.mem_append_right _ mq, z, by omega⟩)), w1⟩)
/-- between two turning uses -/
theorem turn_cov {ps : List Pl} (g : ∀ p ∈ ps, GP p) {k : Nat} (hk : k < ps.length) {d lo hi : Int} (hd : 1 ≤ d) (hlo : lo ≤ hi) {L : List Int} (asc : L.Pairwise (· < ·)) (mem : ∀ u, u ∈ L ↔ Tn ps d lo hi u) {u : Int} (h1 : lo ≤ u) (h2 : u ≤ hi) :
    ∃ p, Tn ps d lo hi p ∧ ((p ≤ u ∧ rgt ps k d u ≤ rgt ps k d p) ∨ rgt ps k d u < rgt ps k d p) := by
  by_cases z : Tn ps d lo hi u
  · exact ⟨u, z, .inl ⟨Int.le_refl _, Int.le_refl _⟩⟩
  have ml : lo ∈ L := (mem lo).mpr (.inl rfl)
  have mh : hi ∈ L := (mem hi).mpr (.inr (.inl rfl))
  have h0 : 0 < L.length := List.length_pos_of_mem ml
  have hge : ∀ w ∈ L, lo ≤ w := fun w m => by
    rcases (mem w).mp m with e | e | ⟨_, e, _⟩ <;> omega
  have first : L[0] ≤ u := by
    obtain ⟨i, hi', e⟩ := List.getElem_of_mem ml
    by_cases c : i = 0
    · subst c; omega
    · have := asc_get asc (i := 0) (j := i) (by omega) hi'; omega
  obtain ⟨j, hj, a1, a2⟩ := cover h0 first
  have hj1 : j + 1 < L.length := by
    by_cases c : j + 1 < L.length
    · exact c
    · exfalso
      obtain ⟨i, hi', e⟩ := List.getElem_of_mem mh
      have : L[i] ≤ L[j] := by
        by_cases e2 : i = j
        · subst e2; exact Int.le_refl _
        · have := asc_get asc (i := i) (j := j) (by omega) hj; omega
      exact z (.inr (.inl (by omega)))
  have a3 := a2 hj1
  have tp : Tn ps d lo hi L[j] := (mem _).mp (List.getElem_mem hj)
  have tq : Tn ps d lo hi L[j + 1] := (mem _).mp (List.getElem_mem hj1)
  have qhi : L[j + 1] ≤ hi := by rcases tq with e | e | ⟨_, _, e⟩ <;> omega
  have plo := hge _ (List.getElem_mem hj)
  have out : ∀ p ∈ ps, ∀ q ∈ p.2, q.1 * d ≤ L[j] ∨ L[j + 1] ≤ q.1 * d := fun p mp q mq => by
    by_cases c1 : q.1 * d ≤ L[j]
    · exact .inl c1
    · by_cases c2 : L[j + 1] ≤ q.1 * d
      · exact .inr c2
      · exfalso
        have mb : q.1 * d ∈ L := (mem _).mpr (.inr (.inr ⟨⟨p, mp, q, mq, rfl⟩, by omega, by omega⟩))
        obtain ⟨i, hi', e⟩ := List.getElem_of_mem mb
        rcases Nat.lt_trichotomy i (j + 1) with c | c | c
        · have : L[i] ≤ L[j] := by
            by_cases e2 : i = j
            · subst e2; exact Int.le_refl _
            · have := asc_get asc (i := i) (j := j) (by omega) hj; omega
          omega
        · subst c; omega
        · have := asc_get asc (i := j + 1) (j := i) c hi'; omega
  have ne : ps ≠ [] := by intro e; rw [e] at hk; simp at hk
  obtain ⟨⟨t, mt, et⟩, _⟩ := mnC_spec ne d u
  have gk := g _ (List.getElem_mem hk)
  have gt := (g t mt).2
  have R : ∀ v, ext ps[k].1 ps[k].2 t.1 t.2 d v ≤ rgt ps k d v := fun v => by
    have := (mnC_spec ne d v).2 t mt
    unfold rgt ext
    rw [getD_chs hk]; omega
  have Ru : rgt ps k d u = ext ps[k].1 ps[k].2 t.1 t.2 d u := by
    unfold rgt ext
    rw [getD_chs hk, et]
  have A : ∀ x, L[j] ≤ x → x ≤ L[j + 1] → ext ps[k].1 ps[k].2 t.1 t.2 d x = ext ps[k].1 ps[k].2 t.1 t.2 d L[j] + slo ps[k].2 t.2 d L[j] * (x - L[j]) := fun x x1 x2 =>
    ext_affine gk.2 gt ps[k].1 t.1 hd x1 fun p mp => by
      rcases List.mem_append.mp mp with mp | mp
      · rcases out _ (List.getElem_mem hk) p mp with e | e <;> omega
      · rcases out t mt p mp with e | e <;> omega
  have Au := A u a1 (by omega)
  have Aq := A L[j + 1] (by omega) (Int.le_refl _)
  have Rp := R L[j]
  have Rq := R L[j + 1]
  by_cases c : slo ps[k].2 t.2 d L[j] ≤ 0
  · refine ⟨_, tp, .inl ⟨a1, ?_⟩⟩
    have : slo ps[k].2 t.2 d L[j] * (u - L[j]) ≤ 0 := Int.mul_nonpos_of_nonpos_of_nonneg c (by omega)
    omega
  · refine ⟨_, tq, .inr ?_⟩
    have : slo ps[k].2 t.2 d L[j] * (u - L[j]) < slo ps[k].2 t.2 d L[j] * (L[j + 1] - L[j]) := Int.mul_lt_mul_of_pos_left (by omega) (by omega)
    omega
/-! ### worst regrets -/
def wv (R : Res (Int × Int)) : Int × Int := match R with
  | .ok b => b
  | _ => (0, 0)
theorem rgI_pair (lo : Int) : ∀ n : Nat, (rgI lo n).Pairwise (· ≤ ·) := fun n => by
  refine List.pairwise_iff_getElem.mpr fun i j hi hj h => ?_
  rw [rgI_len] at hi hj
  have a := rgI_get (lo := lo) hi
  have b := rgI_get (lo := lo) hj
  rw [List.getElem?_eq_getElem (by rw [rgI_len]; omega)] at a b
  rw [Option.some.inj a, Option.some.inj b]; omega
section
variable {ps : List Pl} (g : ∀ p ∈ ps, GP p) {d lo hi : Int} (h : okF d hi) (hlo : 0 ≤ lo ∧ lo ≤ hi) (hl : ps.length ≤ 8)
include g h hlo hl
theorem worst_of_fm {k : Nat} (hk : k < ps.length) {c : Nat} (hc : ∀ p ∈ ps, ∀ q ∈ ps, (cor p.2 q.2 d hi).length ≤ c) (hn : ps.length * c ≤ 61) : Yld (t_worst_of (Tf ps) (k : Int) d lo hi) (fun b => FM (rgt ps k d) (Tn ps d lo hi) b) := by
  have ok : ∀ u, lo ≤ u → u ≤ hi → okU u d := fun u a b => by unfold okF at h; unfold okU; omega
  unfold t_worst_of
  rw [plain_eq g hk (by omega) (ok lo (Int.le_refl _) hlo.2), rb_ok, rb_ok]
  obtain ⟨L, eL, asc, mem⟩ := turning_eq g hk h hlo hc hn
  have inr : ∀ u, Tn ps d lo hi u → lo ≤ u ∧ u ≤ hi := fun u z => by rcases z with e | e | ⟨_, e⟩ <;> omega
  rw [eL, rb_ok]
  refine y_bind (fm_loop (f := rgt ps k d) L (fun u => u = lo) _ (fun q m b => ?_) ⟨rfl, rfl, fun u z => by rw [z]; exact Int.le_refl _, fun u z l => by rw [z] at l; exact absurd l (Int.lt_irrefl _)⟩ (fun u z q m => by rw [z]; exact (inr q ((mem q).mp m)).1) (asc.imp Int.le_of_lt)) fun b hb => y_ok (hb.iff fun u => ?_)
  · have := inr q ((mem q).mp m)
    rw [plain_eq g hk (by omega) (ok q this.1 this.2), rb_ok]
    by_cases c : b.1 < rgt ps k d q
    · rw [if_pos (by simpa using c), if_pos c, letR_eq]
    · rw [if_neg (by simpa using c), if_neg c]
  · rw [mem]
    exact ⟨fun z => z.elim .inl id, fun z => .inr z⟩
theorem lworst_fm {k : Nat} (hk : k < ps.length) {U : List Int} (hU : U.Pairwise (· ≤ ·)) (h0 : U ≠ []) : Yld (t__law_worst ps (k : Int) d U) (fun b => FM (rgt ps k d) (· ∈ U) b) := by
  have hd := h.1
  unfold t__law_worst
  match U, h0, hU with
  | a :: r, _, hU =>
    rw [ixR_0, rb_ok, lregret_eq g hk (by omega) hd, rb_ok, rb_ok, rb_ok]
    refine y_bind (fm_loop (f := rgt ps k d) (a :: r) (fun u => u = a) _ (fun q m b => ?_) ⟨rfl, rfl, fun u z => by rw [z]; exact Int.le_refl _, fun u z l => by rw [z] at l; exact absurd l (Int.lt_irrefl _)⟩ (fun u z q m => ?_) hU) fun b hb => y_ok (hb.iff fun u => ?_)
    · rw [lregret_eq g hk (by omega) hd, rb_ok]
      by_cases c : b.1 < rgt ps k d q
      · rw [if_pos (by simpa using c), if_pos c, letR_eq]
      · rw [if_neg (by simpa using c), if_neg c]
    · rw [z]
      rcases List.mem_cons.mp m with e | m
      · rw [e]; exact Int.le_refl _
      · exact (List.pairwise_cons.mp hU).1 q m
    · exact ⟨fun z => z.elim (fun z => by rw [z]; exact List.mem_cons_self) id, fun z => .inr z⟩
theorem uses_ok : Yld (t__law_uses ps d lo hi) (fun U => U.Pairwise (· ≤ ·) ∧ lo ∈ U ∧ (∀ u ∈ U, lo ≤ u ∧ u ≤ hi) ∧ ((∀ u, u ∈ U ↔ Tn ps d lo hi u) ∨ ∀ u, u ∈ U ↔ lo ≤ u ∧ u ≤ hi)) := by
  have hd := h.1
  have ht := h.2
  unfold t__law_uses
  by_cases c : hi - lo < 61
  · rw [if_pos (by simpa using c)]
    refine ⟨rgI lo (hi + 1 - lo).toNat, if_pos ⟨by omega, by omega, by omega, by omega, show _ ≤ 16777216 by omega⟩, rgI_pair _ _, mem_rgI.mpr (by omega), fun u m => ?_, .inr fun u => ?_⟩
    · have := mem_rgI.mp m; omega
    · rw [mem_rgI]; omega
  · rw [if_neg (by simpa using c), letR_eq]
    refine y_bind (y_forN (fun done (s : List Int) => s.length ≤ 2 + done.length * 8 ∧ ∀ u, u ∈ s ↔ u = lo ∨ u = hi ∨ (Bg done d u ∧ lo < u ∧ u < hi)) ⟨by simp, fun u => by simp [Bg]⟩ (fun done a rest s e hs => ?_)) fun s hs => y_ok ?_
    · have ma : a ∈ ps := by rw [e]; simp
      have gl := (g a ma).2.len
      have hdl : done.length + 1 ≤ 8 := by
        have := congrArg List.length e
        rw [List.length_append, List.length_cons] at this
        omega
      rw [compR_ok (q := fun q : Int × Int => decide (lo < q.1 * d) && decide (q.1 * d < hi)) (g := fun q : Int × Int => q.1 * d) (fun q m => by
        rw [rb_ok, mulD hd, rb_ok]
        by_cases c : lo < q.1 * d
        · rw [if_pos (by simpa using c), rb_ok]; simp [c]
        · rw [if_neg (by simpa using c)]; simp [c]) (fun q m _ => mulD hd), rb_ok]
      have fl := List.length_filter_le (fun q : Int × Int => decide (lo < q.1 * d) && decide (q.1 * d < hi)) a.2
      rw [lenG_le (by rw [List.length_map]; omega), rb_ok, catR_le (by rw [List.length_map]; omega), rb_ok]
      refine y_ok ⟨by rw [List.length_append, List.length_map, List.length_append, List.length_singleton]; omega, fun u => ?_⟩
      rw [List.mem_append, hs.2 u, List.mem_map]
      unfold Bg
      constructor
      · rintro ((z | z | ⟨⟨p, mp, q, mq, z⟩, w⟩) | ⟨q, m, z⟩)
        · exact .inl z
        · exact .inr (.inl z)
        · exact .inr (.inr ⟨⟨p, List.mem_append_left _ mp, q, mq, z⟩, w⟩)
        · rw [List.mem_filter, Bool.and_eq_true, decide_eq_true_eq, decide_eq_true_eq] at m
          exact .inr (.inr ⟨⟨a, List.mem_append_right _ (List.mem_singleton.mpr rfl), q, m.1, z.symm⟩, by omega, by omega⟩)
      · rintro (z | z | ⟨⟨p, mp, q, mq, z⟩, w1, w2⟩)
        · exact .inl (.inl z)
        · exact .inl (.inr (.inl z))
        · rcases List.mem_append.mp mp with mp | mp
          · exact .inl (.inr (.inr ⟨⟨p, mp, q, mq, z⟩, w1, w2⟩))
          · rw [List.mem_singleton.mp mp] at mq
            exact .inr ⟨q, List.mem_filter.mpr ⟨mq, by simp; omega⟩, z.symm⟩
    · have mem : ∀ u, u ∈ sortI s ↔ u ∈ s := fun u => (sortI_perm s).mem_iff
      refine ⟨sortI_sorted s, (mem lo).mpr ((hs.2 lo).mpr (.inl rfl)), fun u m => ?_, .inl fun u => ?_⟩
      · rcases (hs.2 u).mp ((mem u).mp m) with e | e | ⟨_, e⟩ <;> omega
      · rw [mem, hs.2]
        unfold Tn
        constructor
        · rintro (z | z | ⟨z, w⟩)
          · exact .inl z
          · exact .inr (.inl z)
          · exact .inr (.inr ⟨z, by omega, by omega⟩)
        · rintro (z | z | ⟨z, w1, w2⟩)
          · exact .inl z
          · exact .inr (.inl z)
          · by_cases e1 : u = lo
            · exact .inl e1
            · by_cases e2 : u = hi
              · exact .inr (.inl e2)
              · exact .inr (.inr ⟨z, by omega, by omega⟩)
theorem choice_ok {k : Nat} (hk : k < ps.length) : t_check_choice (Tf ps) (k : Int) = .ok () := by
  unfold t_check_choice t_check_tariffs
  have e : (Tf ps).length = ps.length := by simp [Tf]
  have e2 : (Tf ps).isEmpty = false := by cases ps with | nil => simp at hk | cons _ _ => rfl
  rw [if_neg (by simp [e2]), if_neg (by rw [e]; simp; omega), rb_ok, if_neg (by rw [e]; simp; omega)]
theorem uses_fine {u v : Int} (a : 0 ≤ u) (b : u ≤ v) (c : v ≤ 1000000000) : t_check_uses d u v = .ok () := by
  have hd := h.1
  unfold t_check_uses
  rw [if_neg (by simp; omega), if_neg (by simp; omega)]
theorem right_ok {c : Nat} (h1 : 1 ≤ ps.length) (hc : ∀ p ∈ ps, ∀ q ∈ ps, (cor p.2 q.2 d hi).length ≤ c) (hn : ps.length * c ≤ 61) : t__law_right (Tf ps) ps d lo hi = .ok true := by
  have hd := h.1
  have ht := h.2
  unfold t__law_right
  obtain ⟨U, eU, asc, mlo, inr, mem⟩ := uses_ok g h hlo hl
  have U0 : U ≠ [] := List.ne_nil_of_mem mlo
  have WO : ∀ k : Nat, k < ps.length → t_worst_of (Tf ps) (k : Int) d lo hi = .ok (wv (t_worst_of (Tf ps) (k : Int) d lo hi)) ∧ FM (rgt ps k d) (Tn ps d lo hi) (wv (t_worst_of (Tf ps) (k : Int) d lo hi)) := fun k hk => by
    obtain ⟨b, e, f⟩ := worst_of_fm g h hlo hl hk hc hn
    rw [e]; exact ⟨rfl, f⟩
  have WL : ∀ k : Nat, k < ps.length → t__law_worst ps (k : Int) d U = .ok (wv (t_worst_of (Tf ps) (k : Int) d lo hi)) := fun k hk => by
    obtain ⟨b, e, f⟩ := lworst_fm g h hlo hl hk asc U0
    have w := (WO k hk).2
    have w2 : FM (rgt ps k d) (· ∈ U) (wv (t_worst_of (Tf ps) (k : Int) d lo hi)) := by
      rcases mem with mem | mem
      · exact w.iff fun u => (mem u).symm
      · obtain ⟨L, _, la, lm⟩ := turning_eq g hk h hlo hc hn
        refine w.cov (fun u z => (mem u).mpr (by rcases z with e | e | ⟨_, e⟩ <;> omega)) fun u m => ?_
        exact turn_cov g hk hd.1 hlo.2 la lm ((mem u).mp m).1 ((mem u).mp m).2
    rw [e, f.uniq w2]
  have rg : rg1R (ps.length : Int) = .ok (rgI 0 ps.length) := rg1R_nat (by omega)
  rw [eU, rb_ok, rg, rb_ok, mapR_ok (g := fun q => wv (t_worst_of (Tf ps) q d lo hi)) (fun q m => by
    obtain ⟨q1, q2⟩ := mem_rgI.mp m
    have := WL q.toNat (by omega)
    rwa [show ((q.toNat : Nat) : Int) = q by omega] at this), rb_ok, lenG_le (by rw [List.length_map, rgI_len]; omega), rb_ok, rb_ok]
  have ixW : ∀ k : Nat, k < ps.length → ixR ((rgI 0 ps.length).map fun q => wv (t_worst_of (Tf ps) q d lo hi)) (k : Int) = .ok (wv (t_worst_of (Tf ps) (k : Int) d lo hi)) := fun k hk => ixR_nat (by
    rw [List.getElem?_map, rgI_get hk, Int.zero_add]; rfl)
  have whole : ∀ v : Int, t__law_is_whole v = .ok true := fun v => by simp [t__law_is_whole]
  have pair : ∀ v : Int × Int, t__law_pair v = .ok true := fun v => by simp [t__law_pair, whole]
  have hUl : 0 < U.length := List.length_pos_iff.mpr U0
  obtain ⟨mid, emid, mmid⟩ : ∃ m, ixR U ((U.length : Int) / 2) = .ok m ∧ m ∈ U := ⟨_, ixR_lt (by omega) (by omega), List.getElem_mem _⟩
  rw [forC_unit (fun q m => ?_), rb_ok]
  rotate_left
  · obtain ⟨q1, q2⟩ := mem_rgI.mp m
    obtain ⟨k, rfl⟩ : ∃ k : Nat, q = (k : Int) := ⟨q.toNat, by omega⟩
    have hk : k < ps.length := by omega
    have e1 : t_worst_regret (Tf ps) (k : Int) d lo hi = .ok (wv (t_worst_of (Tf ps) (k : Int) d lo hi)) := by
      unfold t_worst_regret
      rw [choice_ok g h hlo hl hk, rb_ok, uses_fine g h hlo hl hlo.1 hlo.2 ht.2, rb_ok]
      exact (WO k hk).1
    rw [e1, rb_ok, pair, rb_ok, rb_ok, if_neg (by simp), ixW k hk, rb_ok, rb_ok, if_neg (by simp), emid, rb_ok, rb_ok]
    rw [forC_unit (fun u mu => ?_), rb_ok]
    · rfl
    · have hu : lo ≤ u ∧ u ≤ hi := by
        simp only [List.mem_cons, List.not_mem_nil, or_false] at mu
        rcases mu with e | e | e
        · omega
        · omega
        · rw [e]; exact inr mid mmid
      have e2 : t_regret_of (Tf ps) (k : Int) d u = .ok (rgt ps k d u) := by
        unfold t_regret_of
        rw [choice_ok g h hlo hl hk, rb_ok, uses_fine g h hlo hl (by omega) (Int.le_refl _) (by omega), rb_ok]
        exact plain_eq g hk (by omega) (by unfold okU; omega)
      rw [e2, rb_ok, whole, rb_ok, rb_ok, if_neg (by simp), lregret_eq g hk (by omega) hd, rb_ok, rb_ok, if_neg (by simp)]
  -- the least worst regret
  have lr : Yld (t_least_regret (Tf ps) d lo hi) (fun o => ∃ b : Nat, b < ps.length ∧ o = ((b : Int), (wv (t_worst_of (Tf ps) (b : Int) d lo hi)).1) ∧ ∀ j : Nat, j < ps.length → (wv (t_worst_of (Tf ps) (b : Int) d lo hi)).1 ≤ (wv (t_worst_of (Tf ps) (j : Int) d lo hi)).1 ∧ (j < b → (wv (t_worst_of (Tf ps) (b : Int) d lo hi)).1 < (wv (t_worst_of (Tf ps) (j : Int) d lo hi)).1)) := by
    unfold t_least_regret
    have ct : t_check_tariffs (Tf ps) = .ok () := by
      unfold t_check_tariffs
      have e : (Tf ps).length = ps.length := by simp [Tf]
      have e2 : (Tf ps).isEmpty = false := by cases ps with | nil => simp at h1 | cons _ _ => rfl
      rw [if_neg (by simp [e2]), if_neg (by rw [e]; simp; omega)]
    rw [ct, rb_ok, uses_fine g h hlo hl hlo.1 hlo.2 ht.2, rb_ok, letR_eq, show ((Tf ps).length : Int) = (ps.length : Int) by simp [Tf], rg, rb_ok]
    refine y_bind (y_forR (fun m (s : Int) => ∃ b : Nat, s = (b : Int) ∧ b < max 1 m ∧ ∀ j : Nat, j < m → (wv (t_worst_of (Tf ps) (b : Int) d lo hi)).1 ≤ (wv (t_worst_of (Tf ps) (j : Int) d lo hi)).1 ∧ (j < b → (wv (t_worst_of (Tf ps) (b : Int) d lo hi)).1 < (wv (t_worst_of (Tf ps) (j : Int) d lo hi)).1)) ⟨0, rfl, by omega, fun j hj => by omega⟩ (fun m s hm hs => ?_)) fun s hs => ?_
    · obtain ⟨b, rfl, hb, hj⟩ := hs
      have a1 := (WO m hm).1
      have a2 := (WO b (by omega)).1
      generalize wv (t_worst_of (Tf ps) (m : Int) d lo hi) = wm at a1
      rw [a1, a2]
      repeat rw [rb_ok]
      have em : wv (t_worst_of (Tf ps) (m : Int) d lo hi) = wm := by rw [a1]; rfl
      by_cases c : wm.1 < (wv (t_worst_of (Tf ps) (b : Int) d lo hi)).1
      · rw [if_pos (by simpa using c), letR_eq]
        refine y_ok ⟨m, rfl, by omega, fun j hj' => ?_⟩
        rw [em]
        by_cases e : j = m
        · subst e; rw [em]; exact ⟨Int.le_refl _, fun z => by omega⟩
        · have := hj j (by omega)
          exact ⟨by omega, fun _ => by omega⟩
      · rw [if_neg (by simpa using c)]
        refine y_ok ⟨b, rfl, by omega, fun j hj' => ?_⟩
        by_cases e : j = m
        · subst e; rw [em]; exact ⟨by omega, fun z => by omega⟩
        · exact hj j (by omega)
    · obtain ⟨b, rfl, hb, hj⟩ := hs
      have hb' : b < ps.length := by omega
      rw [(WO b hb').1, rb_ok, rb_ok]
      exact y_ok ⟨b, hb', rfl, hj⟩
  obtain ⟨o, eo, b, hb, rfl, hj⟩ := lr
  refine (onF_ctlO_none (σ := Unit)).trans ?_
  rw [eo, rb_ok, List.map_map, lenG_le (by rw [List.length_map, rgI_len]; omega), rb_ok]
  have emin : minT ((rgI 0 ps.length).map ((fun q : Int × Int => q.1) ∘ fun q => wv (t_worst_of (Tf ps) q d lo hi))) = .ok (wv (t_worst_of (Tf ps) (b : Int) d lo hi)).1 := by
    have hm : ∀ x, x ∈ (rgI 0 ps.length).map ((fun q : Int × Int => q.1) ∘ fun q => wv (t_worst_of (Tf ps) q d lo hi)) ↔ ∃ j : Nat, j < ps.length ∧ x = (wv (t_worst_of (Tf ps) (j : Int) d lo hi)).1 := fun x => by
      rw [List.mem_map]
      constructor
      · rintro ⟨q, m, rfl⟩
        obtain ⟨q1, q2⟩ := mem_rgI.mp m
        exact ⟨q.toNat, by omega, by rw [show ((q.toNat : Nat) : Int) = q by omega]; rfl⟩
      · rintro ⟨j, hj, rfl⟩
        exact ⟨(j : Int), mem_rgI.mpr (by omega), rfl⟩
    cases z : (rgI 0 ps.length).map ((fun q : Int × Int => q.1) ∘ fun q => wv (t_worst_of (Tf ps) q d lo hi)) with
    | nil =>
      have := congrArg List.length z
      rw [List.length_map, rgI_len, List.length_nil] at this
      omega
    | cons n ns =>
      obtain ⟨m1, m2⟩ := minL_spec n ns
      rw [← z] at m1 m2
      obtain ⟨j, hj1, e⟩ := (hm _).mp m1
      have b1 := m2 _ ((hm _).mpr ⟨b, hb, rfl⟩)
      have b2 := (hj j hj1).1
      show (Res.ok (minL n ns) : Res Int) = _
      rw [show minL n ns = (wv (t_worst_of (Tf ps) (b : Int) d lo hi)).1 by omega]
  rw [emin, rb_ok, rb_ok]
  rw [compR_ok (q := fun q => decide ((wv (t_worst_of (Tf ps) q d lo hi)).1 = (wv (t_worst_of (Tf ps) (b : Int) d lo hi)).1)) (g := fun q => q) (fun q m => by
    obtain ⟨q1, q2⟩ := mem_rgI.mp m
    have := ixW q.toNat (by omega)
    rw [show ((q.toNat : Nat) : Int) = q by omega] at this
    rw [this, rb_ok, rb_ok]) (fun q m _ => rfl), rb_ok]
  have gI : ∀ j, ∀ hj : j < (rgI 0 ps.length).length, (rgI 0 ps.length)[j] = (j : Int) := fun j hj => by
    rw [rgI_len] at hj
    have a := rgI_get (lo := 0) hj
    rw [List.getElem?_eq_getElem (by rw [rgI_len]; omega)] at a
    rw [Option.some.inj a]; omega
  have hbl : b < (rgI 0 ps.length).length := by rw [rgI_len]; omega
  obtain ⟨r, er⟩ := filter_first (C := rgI 0 ps.length) (p := fun q => decide ((wv (t_worst_of (Tf ps) q d lo hi)).1 = (wv (t_worst_of (Tf ps) (b : Int) d lo hi)).1)) hbl (fun j hjb => by
    rw [gI]
    have := (hj j (by omega)).2 hjb
    simp; omega) (by rw [gI]; simp)
  rw [List.map_id'] 
  have fl := List.length_filter_le (fun q => decide ((wv (t_worst_of (Tf ps) q d lo hi)).1 = (wv (t_worst_of (Tf ps) (b : Int) d lo hi)).1)) (rgI 0 ps.length)
  rw [rgI_len] at fl
  rw [lenG_le (by omega), rb_ok, er, gI, ixR_0, rb_ok, pair, rb_ok, if_pos rfl]
  simp
end
theorem up_pair : ∀ {ps : List (Int × Int)}, Up ps → (ps.map (·.1)).Pairwise (· < ·)
  | [], _ => .nil
  | p :: r, h => by
    rw [List.map_cons, List.pairwise_cons]
    refine ⟨fun a m => ?_, up_pair h.2⟩
    obtain ⟨q, mq, rfl⟩ := List.mem_map.mp m
    exact h.1 q mq
/-! ### refused -/
section
variable {q : Int} (hq : q = 0 ∨ q = 1 ∨ q = 2) {ts : List Tariff} {k d lo hi : Int}
include hq
def FE47 (q : Int) (ts : List Tariff) (k d lo hi : Int) (c : Str) (fs : List (Str × V)) : Prop := (q = 0 → t_regret_of ts k d hi = .err c fs) ∧ (q = 1 → t_worst_regret ts k d lo hi = .err c fs) ∧ (q = 2 → t_least_regret ts d lo hi = .err c fs)
def hdl (c : Str) (fs : List (Str × V)) : Res (Ctl Str Unit) := clT subT "Empty" c (noErr (.ok (.ret ("empty" : Str)))) (clT subT "TooMany" c (noErr (((((xfI fs "limit").bind fun v842 => strR v842).bind fun v843 => catS ("many" : Str) v843).bind fun v844 => .ok (.ret v844)))) (clT subT "OutOfRange" c (noErr (.ok (.ret ("range" : Str)))) (clT subT "MeterError" c (noErr (.ok (.ret ("other" : Str)))) (.err c fs))))
theorem called_err {c : Str} {fs : List (Str × V)} (e : FE47 q ts k d lo hi c fs) {s : Str} (hh : hdl c fs = .ok (.ret s)) : t__law_called q ts k d lo hi = .ok s := by
  have fin : (hdl c fs).bind (onF fun s809 => .ok ("fine" : Str)) = (.ok s : Res Str) := by rw [hh]; rfl
  unfold t__law_called
  rcases hq with rfl | rfl | rfl
  · rw [if_pos (by decide), e.1 rfl, Res.bind_err, Res.bind_err, tryT_err]; exact fin
  · rw [if_neg (by decide), rb_ok, if_pos (by decide), e.2.1 rfl, Res.bind_err, Res.bind_err, tryT_err]; exact fin
  · rw [if_neg (by decide), rb_ok, if_neg (by decide), rb_ok, if_pos (by decide), e.2.2 rfl, Res.bind_err, tryT_err]; exact fin
theorem called_fine (e0 : q = 0 → Yld (t_regret_of ts k d hi) fun _ => True) (e1 : q = 1 → Yld (t_worst_regret ts k d lo hi) fun _ => True) (e2 : q = 2 → Yld (t_least_regret ts d lo hi) fun _ => True) : t__law_called q ts k d lo hi = .ok "fine" := by
  unfold t__law_called
  rcases hq with rfl | rfl | rfl
  · obtain ⟨r, e, _⟩ := e0 rfl
    rw [if_pos (by decide), e, rb_ok, rb_ok, if_neg (by decide), rb_ok, if_neg (by decide), tryT_ok, rb_ok]; rfl
  · obtain ⟨r, e, _⟩ := e1 rfl
    rw [if_neg (by decide), rb_ok, if_pos (by decide), e, rb_ok, rb_ok, if_neg (by decide), tryT_ok, rb_ok]; rfl
  · obtain ⟨r, e, _⟩ := e2 rfl
    rw [if_neg (by decide), rb_ok, if_neg (by decide), rb_ok, if_pos (by decide), e, rb_ok, tryT_ok, rb_ok]; rfl
theorem called_tariffs {c : Str} {fs : List (Str × V)} (e : t_check_tariffs ts = .err c fs) {s : Str} (hh : hdl c fs = .ok (.ret s)) : t__law_called q ts k d lo hi = .ok s := by
  refine called_err hq ⟨fun _ => ?_, fun _ => ?_, fun _ => ?_⟩ hh
  · unfold t_regret_of t_check_choice; rw [e]; rfl
  · unfold t_worst_regret t_check_choice; rw [e]; rfl
  · unfold t_least_regret; rw [e]; rfl
theorem called_choice (h2 : q < 2) {c : Str} {fs : List (Str × V)} (e : t_check_choice ts k = .err c fs) {s : Str} (hh : hdl c fs = .ok (.ret s)) : t__law_called q ts k d lo hi = .ok s := by
  refine called_err hq ⟨fun _ => ?_, fun _ => ?_, fun z => by omega⟩ hh
  · unfold t_regret_of; rw [e]; rfl
  · unfold t_worst_regret; rw [e]; rfl
theorem called_uses (ec : t_check_choice ts k = .ok ()) (et : t_check_tariffs ts = .ok ()) {c : Str} {fs : List (Str × V)} (e0 : q = 0 → t_check_uses d hi hi = .err c fs) (e1 : 0 < q → t_check_uses d lo hi = .err c fs) {s : Str} (hh : hdl c fs = .ok (.ret s)) : t__law_called q ts k d lo hi = .ok s := by
  refine called_err hq ⟨fun z => ?_, fun z => ?_, fun z => ?_⟩ hh
  · unfold t_regret_of; rw [ec, rb_ok, e0 z]; rfl
  · unfold t_worst_regret; rw [ec, rb_ok, e1 (by omega)]; rfl
  · unfold t_least_regret; rw [et, rb_ok, e1 (by omega)]; rfl
end
theorem h_empty : hdl "Empty" [] = .ok (.ret "empty") := by unfold hdl; rw [clT_yes sub_Empty_Empty]; rfl
theorem h_range : hdl "OutOfRange" [] = .ok (.ret "range") := by unfold hdl; rw [clT_no sub_OutOfRange_Empty, clT_no sub_OutOfRange_TooMany, clT_yes sub_OutOfRange_OutOfRange]; rfl
theorem h_many : hdl "TooMany" [("limit", V.int 8)] = .ok (.ret "many8") := by
  unfold hdl
  have z : xfI [("limit", V.int 8)] "limit" = .ok 8 := rfl
  have z2 : strR 8 = .ok "8" := (if_pos (by decide)).trans (congrArg Res.ok (by decide +kernel))
  have z3 : catS ("many" : Str) "8" = .ok "many8" := (if_pos (by decide +kernel)).trans (congrArg Res.ok (by decide +kernel))
  rw [clT_no sub_TooMany_Empty, clT_yes sub_TooMany_TooMany, z, rb_ok, z2, rb_ok, z3, rb_ok]; rfl
theorem ct_empty : t_check_tariffs [] = .err "Empty" [] := rfl
theorem ct_many {ts : List Tariff} (h : 8 < ts.length) : t_check_tariffs ts = .err "TooMany" [("limit", V.int 8)] := by
  unfold t_check_tariffs
  have : ts.isEmpty = false := by cases ts with | nil => simp at h | cons _ _ => rfl
  rw [if_neg (by simp [this]), if_pos (by simp; omega)]
theorem ct_ok {ts : List Tariff} (h : 1 ≤ ts.length) (h8 : ts.length ≤ 8) : t_check_tariffs ts = .ok () := by
  unfold t_check_tariffs
  have : ts.isEmpty = false := by cases ts with | nil => simp at h | cons _ _ => rfl
  rw [if_neg (by simp [this]), if_neg (by simp; omega)]
theorem cc_eq {ts : List Tariff} (h : 1 ≤ ts.length) (h8 : ts.length ≤ 8) (k : Int) : t_check_choice ts k = if 0 ≤ k ∧ k < (ts.length : Int) then .ok () else .err "OutOfRange" [] := by
  unfold t_check_choice
  rw [ct_ok h h8, rb_ok]
  by_cases a : 0 ≤ k <;> by_cases b : k < (ts.length : Int) <;> simp [a, b]
theorem cu_eq (d u v : Int) : t_check_uses d u v = if (1 ≤ d ∧ d ≤ 400) ∧ 0 ≤ u ∧ u ≤ v ∧ v ≤ 1000000000 then .ok () else .err "OutOfRange" [] := by
  unfold t_check_uses
  by_cases a : 1 ≤ d <;> by_cases b : d ≤ 400 <;> by_cases c : 0 ≤ u <;> by_cases e : u ≤ v <;> by_cases f : v ≤ 1000000000 <;> simp [a, b, c, e, f]
section
variable {ps : List Pl} (g : ∀ p ∈ ps, GP p) {d lo hi : Int} (h : okF d hi) (hlo : 0 ≤ lo ∧ lo ≤ hi) (hl : ps.length ≤ 8)
include g h hlo hl
theorem fine_ok {q : Int} (hq : q = 0 ∨ q = 1 ∨ q = 2) {k : Nat} (hk : k < ps.length) {c : Nat} (hc : ∀ p ∈ ps, ∀ q ∈ ps, (cor p.2 q.2 d hi).length ≤ c) (hn : ps.length * c ≤ 61) : t__law_called q (Tf ps) (k : Int) d lo hi = .ok "fine" := by
  have hd := h.1
  have ht := h.2
  have WO : ∀ k : Nat, k < ps.length → ∃ b, t_worst_of (Tf ps) (k : Int) d lo hi = .ok b := fun k hk => by
    obtain ⟨b, e, f⟩ := worst_of_fm g h hlo hl hk hc hn
    exact ⟨b, e⟩
  refine called_fine hq (fun _ => ?_) (fun _ => ?_) fun _ => ?_
  · unfold t_regret_of
    rw [choice_ok g h hlo hl hk, rb_ok, uses_fine g h hlo hl (by omega) (Int.le_refl _) (by omega), rb_ok]
    exact ⟨_, plain_eq g hk (by omega) (by unfold okU; omega), trivial⟩
  · unfold t_worst_regret
    rw [choice_ok g h hlo hl hk, rb_ok, uses_fine g h hlo hl hlo.1 hlo.2 ht.2, rb_ok]
    obtain ⟨b, e⟩ := WO k hk
    exact ⟨b, e, trivial⟩
  · unfold t_least_regret
    have e : (Tf ps).length = ps.length := by simp [Tf]
    rw [ct_ok (by rw [e]; omega) (by rw [e]; omega), rb_ok, uses_fine g h hlo hl hlo.1 hlo.2 ht.2, rb_ok, letR_eq, e, rg1R_nat (by omega), rb_ok]
    refine y_bind (y_forR (fun m (s : Int) => ∃ b : Nat, s = (b : Int) ∧ b < ps.length) ⟨0, rfl, by omega⟩ (fun m s hm hs => ?_)) fun s hs => ?_
    · obtain ⟨b, rfl, hb⟩ := hs
      obtain ⟨x, ex⟩ := WO m hm
      obtain ⟨y, ey⟩ := WO b hb
      rw [ex, ey]
      repeat rw [rb_ok]
      refine y_ifb (fun _ => ?_) fun _ => y_ok ⟨b, rfl, hb⟩
      rw [letR_eq]; exact y_ok ⟨m, rfl, hm⟩
    · obtain ⟨b, rfl, hb⟩ := hs
      obtain ⟨y, ey⟩ := WO b hb
      rw [ey, rb_ok, rb_ok]
      exact y_ok trivial
end
theorem Tf_len (ps : List Pl) : (Tf ps).length = ps.length := by simp [Tf]
theorem cor_0 {ps : List Pl} (g : ∀ p ∈ ps, GP p) : ∀ p ∈ ps, ∀ q ∈ ps, (cor p.2 q.2 1 0).length ≤ 1 := fun p mp q mq => by rw [cor_T0 (g p mp).2 (g q mq).2 (by omega)]; simp
theorem refused_ok {ps : List Pl} (g : ∀ p ∈ ps, GP p) (h1 : 1 ≤ ps.length) (hl : ps.length ≤ 8) {c : Nat} (hc : ∀ d hi : Int, ∀ p ∈ ps, ∀ q ∈ ps, (cor p.2 q.2 d hi).length ≤ c) (hn : ps.length * c ≤ 61) {row : List Int} (hr : row.length = 2) : t__law_refused row (Tf ps) = .ok true := by
  unfold t__law_refused
  obtain ⟨a, ea, a1, a2⟩ := at_ok row 0 2 (by omega) (by omega) (by omega)
  obtain ⟨b, eb, b1, b2⟩ := at_ok row 1 1000000 (by omega) (by omega) (by omega)
  obtain ⟨far, hF, hF1, hF2⟩ : ∃ F : Int, a * b = F ∧ 0 ≤ F ∧ F < 1000000 := by
    rcases (by omega : a = 0 ∨ a = 1) with h | h
    · exact ⟨0, by rw [h, Int.zero_mul], by omega, by omega⟩
    · exact ⟨b, by rw [h, Int.one_mul], by omega, by omega⟩
  rw [ea, eb]
  repeat rw [rb_ok]
  rw [mulR_r ⟨by omega, by omega⟩, rb_ok, hF, letR_eq]
  have lt := Tf_len ps
  have er : repR (Tf ps) (9 : Int) = .ok (Tf (List.replicate 9 ps).flatten) := by
    rw [repR_if, if_pos ⟨by omega, by omega, show (Tf ps).length * 9 ≤ 16777216 by omega⟩]
    unfold Tf
    rw [List.map_flatten, List.map_replicate]; rfl
  obtain ⟨N, eN, gN, lN⟩ : ∃ N : List Pl, cutA (Tf (List.replicate 9 ps).flatten) none (some (9 : Int)) = Tf N ∧ (∀ p ∈ N, GP p) ∧ N.length = 9 := by
    have hlen : (List.replicate 9 ps).flatten.length = 9 * ps.length := by simp [List.length_flatten]; omega
    refine ⟨(List.replicate 9 ps).flatten.take 9, ?_, fun p m => ?_, ?_⟩
    · rw [show (9 : Int) = ((9 : Nat) : Int) from rfl, cutA_to (by rw [Tf_len]; omega)]
      unfold Tf
      rw [List.map_take]
    · have := List.mem_of_mem_take m
      rw [List.mem_flatten] at this
      obtain ⟨l, ml, mp⟩ := this
      rw [List.eq_of_mem_replicate ml] at mp
      exact g p mp
    · rw [List.length_take]; omega
  rw [er, rb_ok, rb_ok, eN]
  have cN : cutA (Tf N) none (some (8 : Int)) = Tf (N.take 8) := by
    rw [show (8 : Int) = ((8 : Nat) : Int) from rfl, cutA_to (by rw [Tf_len]; omega)]
    unfold Tf
    rw [List.map_take]
  rw [forC_unit (fun q m => ?_), rb_ok]
  · rfl
  obtain ⟨q1, q2⟩ := mem_rgI.mp m
  have hq : q = 0 ∨ q = 1 ∨ q = 2 := by omega
  rw [letR_eq, catR_le (by simp), rb_ok, catR_le (by simp), rb_ok, catR_le (by simp), rb_ok]
  have cc := cc_eq (ts := Tf ps) (by omega) (by omega)
  have ct := ct_ok (ts := Tf ps) (by omega) (by omega)
  have cT : ∀ {ts : List Tariff} {k d lo hi : Int} {s : Str}, True → True := fun _ => trivial
  have ch0 : t_check_choice (Tf ps) 0 = .ok () := by rw [cc, if_pos (by omega)]
  have chm : t_check_choice (Tf ps) (((Tf ps).length : Int) - 1) = .ok () := by rw [cc, if_pos (by omega)]
  have no : ∀ {d u v : Int}, ¬ ((1 ≤ d ∧ d ≤ 400) ∧ 0 ≤ u ∧ u ≤ v ∧ v ≤ 1000000000) → t_check_uses d u v = .err "OutOfRange" [] := fun h => by rw [cu_eq, if_neg h]
  have n9 : 8 < (Tf N).length := by rw [Tf_len]; omega
  have f1 : t__law_called q (Tf ps) (((Tf ps).length : Int) - 1) 400 1000000000 1000000000 = .ok "fine" := by
    have := fine_ok g (d := 400) (lo := 1000000000) (hi := 1000000000) (by unfold okF; omega) (by omega) hl hq (k := ps.length - 1) (by omega) (hc 400 1000000000) hn
    rw [show ((Tf ps).length : Int) - 1 = ((ps.length - 1 : Nat) : Int) by omega]; exact this
  have g8 : ∀ p ∈ N.take 8, GP p := fun p m => gN p (List.mem_of_mem_take m)
  have l8 : (N.take 8).length = 8 := by rw [List.length_take]; omega
  have f2 : t__law_called q (Tf (N.take 8)) 7 1 0 0 = .ok "fine" :=
    fine_ok g8 (d := 1) (lo := 0) (hi := 0) (by unfold okF; omega) (by omega) (by omega) hq (k := 7) (by omega) (cor_0 g8) (by omega)
  rw [cN]
  have base : ∀ x ∈ [(([] : List Tariff), (0 : Int), (1 : Int), (0 : Int), (5 : Int), ("empty" : Str)), (([] : List Tariff), (7 : Int), (0 : Int), (5 : Int), (-(1 : Int)), ("empty" : Str)), (Tf N, (0 : Int), (1 : Int), (0 : Int), (5 : Int), ("many8" : Str)), (Tf N, (9 : Int), (0 : Int), (5 : Int), (-(1 : Int)), ("many8" : Str))] ++ [(Tf ps, (0 : Int), (0 : Int), (0 : Int), (5 : Int), ("range" : Str)), (Tf ps, (0 : Int), (-far), (0 : Int), (5 : Int), ("range" : Str)), (Tf ps, (0 : Int), ((401 : Int) + far), (0 : Int), (5 : Int), ("range" : Str))] ++ [(Tf ps, (((Tf ps).length : Int) - (1 : Int)), (400 : Int), (5 : Int), ((1000000001 : Int) + far), ("range" : Str)), (Tf ps, (0 : Int), (1 : Int), ((-(1 : Int)) - far), (-(1 : Int)), ("range" : Str))] ++ [(Tf ps, (((Tf ps).length : Int) - (1 : Int)), (400 : Int), (1000000000 : Int), (1000000000 : Int), ("fine" : Str)), (Tf (N.take 8), (7 : Int), (1 : Int), (0 : Int), (0 : Int), ("fine" : Str))], t__law_called q x.1 x.2.1 x.2.2.1 x.2.2.2.1 x.2.2.2.2.1 = .ok x.2.2.2.2.2 := fun x mx => by
    simp only [List.cons_append, List.nil_append, List.mem_cons, List.not_mem_nil, or_false] at mx
    rcases mx with rfl | rfl | rfl | rfl | rfl | rfl | rfl | rfl | rfl | rfl | rfl
    · exact called_tariffs hq ct_empty h_empty
    · exact called_tariffs hq ct_empty h_empty
    · exact called_tariffs hq (ct_many n9) h_many
    · exact called_tariffs hq (ct_many n9) h_many
    · exact called_uses hq ch0 ct (fun _ => no (by dsimp only; omega)) (fun _ => no (by dsimp only; omega)) h_range
    · exact called_uses hq ch0 ct (fun _ => no (by dsimp only; omega)) (fun _ => no (by dsimp only; omega)) h_range
    · exact called_uses hq ch0 ct (fun _ => no (by dsimp only; omega)) (fun _ => no (by dsimp only; omega)) h_range
    · exact called_uses hq chm ct (fun _ => no (by dsimp only; omega)) (fun _ => no (by dsimp only; omega)) h_range
    · exact called_uses hq ch0 ct (fun _ => no (by dsimp only; omega)) (fun _ => no (by dsimp only; omega)) h_range
    · exact f1
    · exact f2
  have bl : ([(([] : List Tariff), (0 : Int), (1 : Int), (0 : Int), (5 : Int), ("empty" : Str)), (([] : List Tariff), (7 : Int), (0 : Int), (5 : Int), (-(1 : Int)), ("empty" : Str)), (Tf N, (0 : Int), (1 : Int), (0 : Int), (5 : Int), ("many8" : Str)), (Tf N, (9 : Int), (0 : Int), (5 : Int), (-(1 : Int)), ("many8" : Str))] ++ [(Tf ps, (0 : Int), (0 : Int), (0 : Int), (5 : Int), ("range" : Str)), (Tf ps, (0 : Int), (-far), (0 : Int), (5 : Int), ("range" : Str)), (Tf ps, (0 : Int), ((401 : Int) + far), (0 : Int), (5 : Int), ("range" : Str))] ++ [(Tf ps, (((Tf ps).length : Int) - (1 : Int)), (400 : Int), (5 : Int), ((1000000001 : Int) + far), ("range" : Str)), (Tf ps, (0 : Int), (1 : Int), ((-(1 : Int)) - far), (-(1 : Int)), ("range" : Str))] ++ [(Tf ps, (((Tf ps).length : Int) - (1 : Int)), (400 : Int), (1000000000 : Int), (1000000000 : Int), ("fine" : Str)), (Tf (N.take 8), (7 : Int), (1 : Int), (0 : Int), (0 : Int), ("fine" : Str))]).length = 11 := rfl
  generalize ([(([] : List Tariff), (0 : Int), (1 : Int), (0 : Int), (5 : Int), ("empty" : Str)), (([] : List Tariff), (7 : Int), (0 : Int), (5 : Int), (-(1 : Int)), ("empty" : Str)), (Tf N, (0 : Int), (1 : Int), (0 : Int), (5 : Int), ("many8" : Str)), (Tf N, (9 : Int), (0 : Int), (5 : Int), (-(1 : Int)), ("many8" : Str))] ++ [(Tf ps, (0 : Int), (0 : Int), (0 : Int), (5 : Int), ("range" : Str)), (Tf ps, (0 : Int), (-far), (0 : Int), (5 : Int), ("range" : Str)), (Tf ps, (0 : Int), ((401 : Int) + far), (0 : Int), (5 : Int), ("range" : Str))] ++ [(Tf ps, (((Tf ps).length : Int) - (1 : Int)), (400 : Int), (5 : Int), ((1000000001 : Int) + far), ("range" : Str)), (Tf ps, (0 : Int), (1 : Int), ((-(1 : Int)) - far), (-(1 : Int)), ("range" : Str))] ++ [(Tf ps, (((Tf ps).length : Int) - (1 : Int)), (400 : Int), (1000000000 : Int), (1000000000 : Int), ("fine" : Str)), (Tf (N.take 8), (7 : Int), (1 : Int), (0 : Int), (0 : Int), ("fine" : Str))]) = B0 at base bl
  have run : ∀ {L : List (List Tariff × Int × Int × Int × Int × Str)}, (∀ x ∈ L, t__law_called q x.1 x.2.1 x.2.2.1 x.2.2.2.1 x.2.2.2.2.1 = .ok x.2.2.2.2.2) → forC (fun q1288 (s1287 : Unit) => ((((t__law_called q q1288.1 q1288.2.1 q1288.2.2.1 q1288.2.2.2.1 q1288.2.2.2.2.1).bind fun v1295 => .ok (!decide (v1295 = q1288.2.2.2.2.2))).bind fun b1296 => if b1296 = true then .ok (.ret false) else .ok (.next ())) : Res (Ctl Bool (Unit)))) L () = .ok (.next ()) := fun hx => forC_unit fun x mx => by rw [hx x mx, rb_ok, rb_ok, if_neg (by simp)]
  have sec : ∃ L1 : List (List Tariff × Int × Int × Int × Int × Str), ((if (decide (q < (2 : Int))) = true then ((catR B0 ([(Tf ps, (((Tf ps).length : Int) + far), (1 : Int), (0 : Int), (5 : Int), ("range" : Str)), (Tf ps, ((-(1 : Int)) - far), (1 : Int), (0 : Int), (5 : Int), ("range" : Str)), (([] : List Tariff), (-(1 : Int)), (1 : Int), (0 : Int), (5 : Int), ("empty" : Str))] : List ((List Tariff) × Int × Int × Int × Int × Str))).bind fun due_12 => .ok due_12) else .ok B0) : Res ((List ((List Tariff) × Int × Int × Int × Int × Str)))) = .ok L1 ∧ L1.length ≤ 14 ∧ ∀ x ∈ L1, t__law_called q x.1 x.2.1 x.2.2.1 x.2.2.2.1 x.2.2.2.2.1 = .ok x.2.2.2.2.2 := by
    by_cases z : q < 2
    · refine ⟨_, (by rw [if_pos (by simpa using z), catR_le (by rw [bl]; simp), rb_ok]), by rw [List.length_append, bl]; simp, fun x mx => ?_⟩
      rcases List.mem_append.mp mx with mx | mx
      · exact base x mx
      · simp only [List.mem_cons, List.not_mem_nil, or_false] at mx
        rcases mx with rfl | rfl | rfl
        · exact called_choice hq z (by rw [cc, if_neg (by dsimp only; omega)]) h_range
        · exact called_choice hq z (by rw [cc, if_neg (by dsimp only; omega)]) h_range
        · exact called_tariffs hq ct_empty h_empty
    · exact ⟨B0, if_neg (by simpa using z), by omega, base⟩
  obtain ⟨L1, e1, l1, r1⟩ := sec
  rw [e1, rb_ok]
  have thr : ∃ L2 : List (List Tariff × Int × Int × Int × Int × Str), ((if (decide ((0 : Int) < q)) = true then ((catR L1 ([(Tf ps, (0 : Int), (1 : Int), ((6 : Int) + far), (5 : Int), ("range" : Str)), (Tf ps, (0 : Int), (1 : Int), ((-(1 : Int)) - far), (5 : Int), ("range" : Str))] : List ((List Tariff) × Int × Int × Int × Int × Str))).bind fun due_14 => .ok due_14) else .ok L1) : Res ((List ((List Tariff) × Int × Int × Int × Int × Str)))) = .ok L2 ∧ ∀ x ∈ L2, t__law_called q x.1 x.2.1 x.2.2.1 x.2.2.2.1 x.2.2.2.2.1 = .ok x.2.2.2.2.2 := by
    by_cases z : 0 < q
    · refine ⟨_, (by rw [if_pos (by simpa using z), catR_le (by simp; omega), rb_ok]), fun x mx => ?_⟩
      rcases List.mem_append.mp mx with mx | mx
      · exact r1 x mx
      · simp only [List.mem_cons, List.not_mem_nil, or_false] at mx
        rcases mx with rfl | rfl
        · exact called_uses hq ch0 ct (fun e => by omega) (fun _ => no (by dsimp only; omega)) h_range
        · exact called_uses hq ch0 ct (fun e => by omega) (fun _ => no (by dsimp only; omega)) h_range
    · exact ⟨L1, if_neg (by simpa using z), r1⟩
  obtain ⟨L2, e2, r2⟩ := thr
  rw [e2, rb_ok, run r2, rb_ok]
  rfl
/-! ### the law -/
theorem up_of : ∀ {ps : List (Int × Int)}, (ps.map (·.1)).Pairwise (· < ·) → Up ps
  | [], _ => trivial
  | p :: r, h => by
    obtain ⟨h1, h2⟩ := List.pairwise_cons.mp (by simpa using h : (p.1 :: r.map (·.1)).Pairwise (· < ·))
    exact ⟨fun q m => h1 _ (List.mem_map_of_mem m), up_of h2⟩
theorem good_set {ps : List (Int × Int)} (g : Good ps) {i : Nat} (hi : i < ps.length) {x : Int} (hx : 0 ≤ x ∧ x ≤ 1000000) : Good (ps.set i (ps[i].1, x)) := by
  have e : (ps.set i (ps[i].1, x)).map (·.1) = ps.map (·.1) := by
    rw [List.map_set]
    refine List.ext_getElem (by simp) fun j h1 h2 => ?_
    rw [List.getElem_set]
    split
    · rename_i z; subst z; simp
    · rfl
  refine ⟨up_of (by rw [e]; exact up_pair g.up), fun p m => ?_, ?_, by rw [List.length_set]; exact g.len⟩
  · rcases List.mem_or_eq_of_mem_set m with m | m
    · exact g.b p m
    · have := g.b _ (List.getElem_mem hi)
      rw [m]; exact ⟨this.1, this.2.1, hx.1, hx.2⟩
  · obtain ⟨p, r, e1, z⟩ := g.z
    subst e1
    cases i with
    | zero => exact ⟨_, _, rfl, z⟩
    | succ i => exact ⟨_, _, rfl, z⟩
theorem plans_ok {row : List Int} (hr : row.length = 119) {n mo : Nat} (hn : n ≤ 8) (hmo : 1 ≤ mo ∧ mo ≤ 3) {w : Int} (hw : w = 0 ∨ w = 1) : Yld (t__law_plans row (n : Int) (mo : Int) w) (fun P => P.length = n ∧ ∀ p ∈ P, GP p ∧ p.2.length ≤ mo) := by
  unfold t__law_plans
  rw [letR_eq, rg1R_nat (by omega), rb_ok]
  refine y_bind (y_forR (fun k (P : List Pl) => P.length = k ∧ ∀ p ∈ P, GP p ∧ p.2.length ≤ mo) ⟨rfl, fun _ z => nomatch z⟩ (fun k P hk hP => ?_)) fun P hP => y_ok hP
  obtain ⟨hPl, hPg⟩ := hP
  obtain ⟨m, em, hm⟩ := two_ok (a := 30) (b := 1000001) hw
  obtain ⟨s, es, s1, s2⟩ := at_ok row (12 * (k : Int)) m (by omega) (by omega) (by omega)
  obtain ⟨c, ec, c1, c2⟩ := at_ok row (12 * (k : Int) + 10) (mo : Int) (by omega) (by omega) (by omega)
  obtain ⟨st, est, gst, lst⟩ := steps_ok row (12 * (k : Int) + 1) (c + 1) w 0 hw (by omega) (by omega)
  rw [letR_eq, em, rb_ok, es, rb_ok, ec, rb_ok, rb_ok, est, rb_ok]
  refine y_bind (P := fun o : Pl => GP o ∧ o.2.length ≤ mo) ?_ fun o ho => ?_
  · have d0 : GP (s, st) ∧ st.length ≤ mo := ⟨⟨by show 0 ≤ s ∧ s ≤ 1000000; omega, gst⟩, by omega⟩
    by_cases k0 : 0 < k
    · obtain ⟨z, ez, z1, z2⟩ := at_ok row (12 * (k : Int) + 11) 3 (by omega) (by omega) (by omega)
      rw [if_pos (by simpa using k0), ez, rb_ok, rb_ok]
      refine y_ifb (fun _ => ?_) fun _ => y_ok d0
      have hk1 : k - 1 < P.length := by omega
      have ix : ixR P ((k : Int) - 1) = .ok P[k - 1] := by rw [show (k : Int) - 1 = ((k - 1 : Nat) : Int) by omega]; exact ixR_nat (List.getElem?_eq_getElem hk1)
      obtain ⟨⟨g1, g2⟩, g3⟩ := hPg _ (List.getElem_mem hk1)
      obtain ⟨y, ey, y1, y2⟩ := at_ok row (12 * (k : Int)) 41 (by omega) (by omega) (by omega)
      rw [ix, ey]
      repeat rw [rb_ok]
      generalize P[k - 1] = o at g1 g2 g3
      have gl := g2.len
      obtain ⟨sp, esp, p1, p2⟩ := at_ok row (12 * (k : Int) + 1) (o.2.length : Int) (by omega) (by omega) (by omega)
      obtain ⟨i, rfl⟩ : ∃ i : Nat, sp = (i : Int) := ⟨sp.toNat, by omega⟩
      have hi : i < o.2.length := by omega
      obtain ⟨v, ev, v1, v2⟩ := at_ok row (12 * (k : Int) + 2) 5 (by omega) (by omega) (by omega)
      have ix2 : ixR o.2 (i : Int) = .ok o.2[i] := ixR_nat (List.getElem?_eq_getElem hi)
      rw [esp, rb_ok, ix2, ev]
      repeat rw [rb_ok]
      rw [setR_nat hi, rb_ok]
      exact y_ok ⟨⟨by show 0 ≤ max 0 _ ∧ max 0 _ ≤ 1000000; omega, good_set g2 hi (by omega)⟩, by show (o.2.set i _).length ≤ mo; rw [List.length_set]; omega⟩
    · rw [if_neg (by simpa using k0), rb_ok, if_neg (by simp)]
      exact y_ok d0
  · rw [appR_lt (by omega), rb_ok]
    refine y_ok ⟨by rw [List.length_append, hPl]; rfl, fun p m => ?_⟩
    rcases List.mem_append.mp m with m | m
    · exact hPg p m
    · rw [List.mem_singleton.mp m]; exact ho
theorem cor_small {ps : List Pl} {mo : Nat} (h : ∀ p ∈ ps, GP p ∧ p.2.length ≤ mo) (d hi : Int) : ∀ p ∈ ps, ∀ q ∈ ps, (cor p.2 q.2 d hi).length ≤ 2 + 2 * mo := fun p mp q mq => by
  unfold cor
  refine Nat.le_trans setI_len ?_
  have l1 := (h p mp).2
  have l2 := (h q mq).2
  have := List.length_filter_le (fun q => decide (q * d ≤ hi)) (us p.2 q.2)
  have lu : (us p.2 q.2).length = p.2.length + q.2.length := by simp [us]
  rw [List.length_append, List.length_map]
  simp only [List.length_cons, List.length_nil]
  omega
theorem law_ok (nums : List Int) : t_law nums = .ok true := by
  unfold t_law
  obtain ⟨c, ec⟩ := cell_ok nums 0
  obtain ⟨row, er, hr⟩ := row_ok c 120 (by omega)
  have ec : t__law_cell nums (0 : Int) = .ok c := ec
  have er : t__law_row c (120 : Int) = .ok row := er
  have A : ∀ (a m : Int), 0 ≤ a → a < 120 → 0 < m → ∃ x, t__law_at row a m = .ok x ∧ 0 ≤ x ∧ x < m := fun a m h0 h1 h2 => at_ok row a m h0 (by omega) h2
  have hr1 : (cutA row (some (1 : Int)) none).length = 119 := by rw [show (1 : Int) = ((1 : Nat) : Int) from rfl, cutA_from (by omega), List.length_drop]; omega
  obtain ⟨w, ew, w1, w2⟩ := A 0 2 (by omega) (by omega) (by omega)
  obtain ⟨n0, e0, n1, n2⟩ := A 100 4 (by omega) (by omega) (by omega)
  obtain ⟨n, rfl⟩ : ∃ n : Nat, n0 = (n : Int) := ⟨n0.toNat, by omega⟩
  obtain ⟨P0, eP0, lP0, gP0⟩ := plans_ok hr1 (n := n + 1) (mo := 3) (by omega) (by omega) (w := w) (by omega)
  have eP0 : t__law_plans (cutA row (some (1 : Int)) none) ((n : Int) + 1) (3 : Int) w = .ok P0 := eP0
  obtain ⟨x8, e8, _, _⟩ := A 101 8 (by omega) (by omega) (by omega)
  rw [ec, rb_ok, er, rb_ok, ew, rb_ok, e0, rb_ok, rb_ok, eP0, rb_ok, e8, rb_ok, rb_ok]
  refine y_get (y_bind (P := fun P : List Pl => ∃ mo : Nat, 1 ≤ P.length ∧ P.length ≤ 8 ∧ (∀ p ∈ P, GP p ∧ p.2.length ≤ mo) ∧ P.length * (2 + 2 * mo) ≤ 61) (y_ifb (fun _ => ?_) fun _ => y_ok ⟨3, by omega, by omega, gP0, by omega⟩) fun ps hps => ?_)
  · obtain ⟨P1, eP1, lP1, gP1⟩ := plans_ok hr1 (n := 8) (mo := 1) (by omega) (by omega) (w := w) (by omega)
    have eP1 : t__law_plans (cutA row (some (1 : Int)) none) (8 : Int) (1 : Int) w = .ok P1 := eP1
    rw [eP1, rb_ok]
    exact y_ok ⟨1, by omega, by omega, gP1, by omega⟩
  obtain ⟨mo, h1, hl, gm, hn⟩ := hps
  have g : ∀ p ∈ ps, GP p := fun p m => (gm p m).1
  have hc := cor_small gm
  have emk : mapR (fun q : Pl => t_Tariff___init__ q.1 q.2) ps = .ok (Tf ps) := by
    rw [mapR_ok (g := fun p : Pl => (⟨p.1, p.2⟩ : Tariff)) (fun p m => made (g p m).1 (g p m).2)]; rfl
  obtain ⟨dd, edd, d1, d2⟩ := A 102 400 (by omega) (by omega) (by omega)
  obtain ⟨dk, edk, k1, k2⟩ := A 103 4 (by omega) (by omega) (by omega)
  obtain ⟨d, ed, hd⟩ : ∃ d, ixR [(1 : Int), (2 : Int), (400 : Int), dd + 1] dk = .ok d ∧ 1 ≤ d ∧ d ≤ 400 := by
    rcases (by omega : dk = 0 ∨ dk = 1 ∨ dk = 2 ∨ dk = 3) with rfl | rfl | rfl | rfl
    · exact ⟨1, ixR_0, by omega⟩
    · exact ⟨2, ixR_1, by omega⟩
    · exact ⟨400, ixR_nat (n := 2) rfl, by omega⟩
    · exact ⟨dd + 1, ixR_nat (n := 3) rfl, by omega⟩
  obtain ⟨lo0, elo, lo1, lo2⟩ := A 104 61 (by omega) (by omega) (by omega)
  obtain ⟨gr, egr, gr1, gr2⟩ := A 105 61 (by omega) (by omega) (by omega)
  obtain ⟨sk, esk, sk1, sk2⟩ := A 106 (ps.length : Int) (by omega) (by omega) (by omega)
  obtain ⟨kd, ekd, _, _⟩ := A 107 3 (by omega) (by omega) (by omega)
  rw [emk, rb_ok, lenG_le (by rw [Tf_len]; omega), rb_ok, edd, rb_ok, rb_ok, edk]
  repeat rw [rb_ok]
  rw [ed, rb_ok, elo, rb_ok, egr]
  repeat rw [rb_ok]
  have gsk := g _ (List.getElem_mem (show sk.toNat < ps.length by omega))
  rw [esk, rb_ok, ixR_lt sk1 sk2, rb_ok, rb_ok, ekd, rb_ok]
  generalize ps[sk.toNat] = o at gsk
  have go := gsk.2
  have glen := go.len
  have gn := go.n hd
  refine y_bind (P := fun s : Int × Int => 0 ≤ s.1 ∧ s.1 ≤ s.2 ∧ s.2 ≤ 1000000000) (y_ifb (fun _ => ?_) fun _ => y_ok (by dsimp only; omega)) fun s1 hs1 => ?_
  · obtain ⟨a, ea, a1, a2⟩ := A 108 3 (by omega) (by omega) (by omega)
    obtain ⟨b, eb, b1, b2⟩ := A 109 500000 (by omega) (by omega) (by omega)
    have hne : o.2 ≠ [] := by intro z; rw [z] at glen; simp at glen
    have el : ixR o.2 (-(1 : Int)) = .ok (o.2.getLast hne) := ixR_last (List.getLast?_eq_some_getLast hne)
    have := gn _ (List.getLast_mem hne)
    rw [el]
    repeat rw [rb_ok]
    rw [mulD hd, ea, eb]
    repeat rw [rb_ok]
    exact y_ok (by dsimp only; omega)
  refine y_bind (P := fun s : Int × Int => 0 ≤ s.1 ∧ s.1 ≤ s.2 ∧ s.2 ≤ 1000000000) (y_ifb (fun _ => ?_) fun _ => y_ok hs1) fun s2 hs2 => ?_
  · obtain ⟨a, ea, a1, a2⟩ := A 108 (o.2.length : Int) (by omega) (by omega) (by omega)
    obtain ⟨b, eb, b1, b2⟩ := A 109 31 (by omega) (by omega) (by omega)
    obtain ⟨e, ee, e1, e2⟩ := A 110 61 (by omega) (by omega) (by omega)
    have := gn _ (List.getElem_mem (show a.toNat < o.2.length by omega))
    rw [ea, rb_ok, ixR_lt a1 a2]
    repeat rw [rb_ok]
    rw [mulD hd, eb, ee]
    repeat rw [rb_ok]
    exact y_ok (by dsimp only; omega)
  have F : ∀ {D H : Int}, 1 ≤ D ∧ D ≤ 400 → 0 ≤ H ∧ H ≤ 1000000000 → okF D H := fun a b => ⟨a, b⟩
  have R1 := right_ok g (F hd (H := s2.2) (by omega)) (lo := s2.1) (by omega) hl h1 (hc d s2.2) hn
  have R2 := right_ok g (F (D := 1) (by omega) (H := s2.1) (by omega)) (lo := s2.1) (by omega) hl h1 (hc 1 s2.1) hn
  have g1 : ∀ p ∈ ps.take 1, GP p ∧ p.2.length ≤ mo := fun p m => gm p (List.mem_of_mem_take m)
  have l1 : (ps.take 1).length = 1 := by rw [List.length_take]; omega
  have R3 := right_ok (fun p m => (g1 p m).1) (F hd (H := 1000000000) (by omega)) (lo := 0) (by omega) (by omega) (by omega) (cor_small g1 d 1000000000) (by
    rw [l1, Nat.one_mul]
    refine Nat.le_trans ?_ hn
    exact Nat.le_mul_of_pos_left _ h1)
  have R4 := right_ok g (F hd (H := s2.2) (by omega)) (lo := 0) (by omega) hl h1 (hc d s2.2) hn
  have ct1 : cutA (Tf ps) none (some (1 : Int)) = Tf (ps.take 1) := by
    rw [show (1 : Int) = ((1 : Nat) : Int) from rfl, cutA_to (by rw [Tf_len]; omega)]
    unfold Tf
    rw [List.map_take]
  have ct2 : cutA ps none (some (1 : Int)) = ps.take 1 := by rw [show (1 : Int) = ((1 : Nat) : Int) from rfl, cutA_to (by omega)]
  have lr2 : (cutA row (some (111 : Int)) (some (113 : Int))).length = 2 := by
    rw [show (111 : Int) = ((111 : Nat) : Int) from rfl, show (113 : Int) = ((113 : Nat) : Int) from rfl, cutA_mid (by omega) (by omega)]; simp; omega
  rw [R1]
  repeat rw [rb_ok]
  rw [if_neg (by simp), R2]
  repeat rw [rb_ok]
  rw [if_neg (by simp), ct1, ct2, R3]
  repeat rw [rb_ok]
  rw [if_neg (by simp), R4]
  repeat rw [rb_ok]
  rw [if_neg (by simp), refused_ok g h1 hl hc hn lr2]
  exact y_ok rfl
theorem law_true : ∀ ns : List Int, ns.length ≤ 63 → m_law [.scr ns] = .ok (.bl true) := tlaw_of fun ns _ => law_ok ns
end K47
namespace K47
open PySem L2 DH
def top (i : Nat) : Stmt := PySem.Challenge.pw_dialhouse_k47_whole_regrets.main.body.getD i (.Pass ⟨0, 0, 0, 0⟩)
abbrev s__law_row : Stmt := top 32
abbrev s__law_at : Stmt := top 33
abbrev s__law_steps : Stmt := top 35
abbrev s__law_plans : Stmt := top 39
abbrev s_TooMany___init__ : Stmt := inClass (top 4) 0
abbrev s_check_tariffs : Stmt := top 21
abbrev s_check_choice : Stmt := top 22
abbrev s_check_uses : Stmt := top 23
abbrev s_check_use : Stmt := top 14
abbrev s_Tariff_charge : Stmt := inClass (top 15) 1
abbrev s_plain_regret : Stmt := top 24
abbrev s_regret_of : Stmt := top 25
abbrev s_check_frame : Stmt := top 17
abbrev s_corners_of : Stmt := top 18
abbrev s_turning_uses : Stmt := top 26
abbrev s_worst_of : Stmt := top 27
abbrev s_worst_regret : Stmt := top 28
abbrev s_least_regret : Stmt := top 29
abbrev s__law_called : Stmt := top 45
abbrev s__law_refused : Stmt := top 46
abbrev s__law_cell : Stmt := top 31
abbrev s_check_steps : Stmt := top 13
abbrev s_Tariff___init__ : Stmt := inClass (top 15) 0
abbrev s__law_uses : Stmt := top 41
abbrev s__law_lines : Stmt := top 37
abbrev s__law_charge : Stmt := top 38
abbrev s__law_regret : Stmt := top 40
abbrev s__law_worst : Stmt := top 42
abbrev s__law_is_whole : Stmt := top 34
abbrev s__law_pair : Stmt := top 43
abbrev s__law_right : Stmt := top 44
abbrev s_law : Stmt := top 47
structure Txt (K : PySem.W.Frag) (mg : Str → Option Value) : Prop where
  b_bool : mg "bool" = none
  b_int : mg "int" = none
  b_isinstance : mg "isinstance" = none
  b_len : mg "len" = none
  b_list : mg "list" = none
  b_max : mg "max" = none
  b_min : mg "min" = none
  b_range : mg "range" = none
  b_set : mg "set" = none
  b_sorted : mg "sorted" = none
  b_str : mg "str" = none
  b_sum : mg "sum" = none
  b_tuple : mg "tuple" = none
  c_MOST_DAYS : ∃ t, mg "MOST_DAYS" = some (.int 400 t)
  c_MOST_PRICE : ∃ t, mg "MOST_PRICE" = some (.int 1000000 t)
  c_MOST_STEPS : ∃ t, mg "MOST_STEPS" = some (.int 8 t)
  c_MOST_TARIFFS : ∃ t, mg "MOST_TARIFFS" = some (.int 8 t)
  c_MOST_UNIT : ∃ t, mg "MOST_UNIT" = some (.int 1000000 t)
  c_MOST_USE : ∃ t, mg "MOST_USE" = some (.int 1000000000 t)
  x_BadOrder : Ex0H K mg "BadOrder"
  x_Empty : Ex0H K mg "Empty"
  x_OutOfRange : Ex0H K mg "OutOfRange"
  n_Empty : NmH mg "Empty"
  n_MeterError : NmH mg "MeterError"
  n_OutOfRange : NmH mg "OutOfRange"
  n_TooMany : NmH mg "TooMany"
  xf_TooMany : XfH K mg subT "TooMany" ["limit"]
  cl_Tariff : ClH K mg "Tariff" ["standing", "steps"]
  sub : SubOk ⟨K, mg⟩ subT
section
variable {P : Program} {w : World} {K : PySem.W.Frag} {mg : Str → Option Value} {base : Heap}
abbrev N__law_row : List Str := ["cell", "many", "row", "k", "mixed"]
theorem sc__law_row : FnScope ["cell", "many", "row", "k", "mixed"] ["cell", "many"] (defScope s__law_row) := ⟨rfl, rfl, rfl, by decide +kernel, rfl, by decide +kernel, by decide +kernel⟩
theorem ok__law_row (T : Txt K mg)  {f : Addr} {fd : FuncData} (F : Fun K "_law_row" "_law_row" s__law_row f fd) : FnOk P w K mg base (L2.CX P w) 1 f fd ["cell", "many"] (spF ⟨K, mg⟩ 2 m__law_row) :=
  have S := sc__law_row
  fn_mk (k := 0) F sc__law_row fun cdv A outer s H H0 F0 E hr tk =>
  (sb_cons (ss_set 2 (by exact True.intro) S.nd (ev_lst eav_nil))
  (sb_cons (ss_if (et_cmp op_ge op2_ge (eb_var 0) (ev_pow ev_int.b ev_int.b).b (nomark _)) (sb_cons (ss_for (passes_of rfl) rfl (it_rng1 T.b_range (ea_cons (eb_var 1) ea_nil)) (fun _ _ => (gt_name 3 (by exact True.intro) S.nd)) (fun _ _ => (sb_cons (ss_app 2 rfl (ev_mod (c_int T.b_int (ea_cons (eb_var 0) ea_nil)).b ev_int.b))
      (sb_one (ss_set 0 (by exact True.intro) S.nd (ev_fdiv (eb_var 0) ev_int.b))))))
    (sb_one (ss_retV 2))) sb_nil)
  (sb_cons (ss_for (passes_of rfl) rfl (it_rng1 T.b_range (ea_cons (eb_var 1) ea_nil)) (fun _ _ => (gt_name 3 (by exact True.intro) S.nd)) (fun _ _ => (sb_cons (ss_set 4 (by exact True.intro) S.nd (ev_mod (c_int T.b_int (ea_cons (ev_add rfl (ev_add rfl (ev_mul (eb_var 0) ev_int.b).b (ev_mul (eb_var 3) ev_int.b).b).b ev_int.b).b ea_nil)).b ev_int.b))
    (sb_one (ss_app 2 rfl (ev_mod (c_int T.b_int (ea_cons (ev_add rfl (ev_add rfl (ev_mul (eb_var 4) ev_int.b).b (ev_mul (ev_mul (eb_var 3) (eb_var 3)).b ev_int.b).b).b ev_int.b).b ea_nil)).b ev_int.b))))))
  (sb_one (ss_retV 2)))))
abbrev N__law_at : List Str := ["row", "at", "many"]
theorem sc__law_at : FnScope ["row", "at", "many"] ["row", "at", "many"] (defScope s__law_at) := ⟨rfl, rfl, rfl, by decide +kernel, rfl, by decide +kernel, by decide +kernel⟩
theorem ok__law_at (T : Txt K mg)  {f : Addr} {fd : FuncData} (F : Fun K "_law_at" "_law_at" s__law_at f fd) : FnOk P w K mg base (L2.CX P w) 1 f fd ["row", "at", "many"] (spF ⟨K, mg⟩ 3 m__law_at) :=
  have S := sc__law_at
  fn_mk (k := 0) F sc__law_at fun cdv A outer s H H0 F0 E hr tk =>
  (sb_one (ss_ret (ev_mod (c_int T.b_int (ea_cons (eb_ix rfl (eb_var 0) (eb_var 1)) ea_nil)).b (eb_var 2))))
abbrev N__law_steps : List Str := ["row", "at", "count", "wide", "mode", "units", "prices", "k", "room"]
theorem sc__law_steps : FnScope ["row", "at", "count", "wide", "mode", "units", "prices", "k", "room"] ["row", "at", "count", "wide", "mode"] (defScope s__law_steps) := ⟨rfl, rfl, rfl, by decide +kernel, rfl, by decide +kernel, by decide +kernel⟩
theorem ok__law_steps (T : Txt K mg) (D__law_at : FnE P w K mg base "_law_at" 3 1 m__law_at) {f : Addr} {fd : FuncData} (F : Fun K "_law_steps" "_law_steps" s__law_steps f fd) : FnOk P w K mg base (L2.CX P w) 2 f fd ["row", "at", "count", "wide", "mode"] (spF ⟨K, mg⟩ 5 m__law_steps) :=
  have S := sc__law_steps
  fn_mk (k := 1) F sc__law_steps fun cdv A outer s H H0 F0 E hr tk =>
  (sb_cons (ss_set 5 (by exact True.intro) S.nd (ev_lst (eav_cons ev_int eav_nil)))
  (sb_cons (ss_set 6 (by exact True.intro) S.nd (ev_lst eav_nil))
  (sb_cons (ss_for (passes_of rfl) rfl (it_rng1 T.b_range (ea_cons (eb_var 2) ea_nil)) (fun _ _ => (gt_name 7 (by exact True.intro) S.nd)) (fun _ _ => (sb_cons (ss_if (et_cmp op_gt op2_gt (eb_var 7) ev_int.b (nomark _)) (sb_cons (ss_set 8 (by exact True.intro) S.nd (ev_sub (ev_add rfl (ev_sub ev_int.b (eb_var 2)).b (eb_var 7)).b (eb_ix rfl (eb_var 5) (ev_neg ev_int.b).b)))
      (sb_one (ss_app 5 rfl (ev_add rfl (ev_add rfl (eb_ix rfl (eb_var 5) (ev_neg ev_int.b).b) ev_int.b).b (ev_call D__law_at rfl (hr.mono (show 1 ≤ 1 by decide)) tk (ea_cons (eb_var 0) (ea_cons (ev_add rfl (eb_var 1) (ev_mul ev_int.b (eb_var 7)).b).b (ea_cons (c_min2 rfl T.b_min (ea_cons (eb_var 8) (ea_cons (eb_ix rfl (eb_lst (ea_cons ev_int.b (ea_cons ev_int.b ea_nil))) (eb_var 3)) ea_nil))).b ea_nil)))).b)))) sb_nil)
    (sb_cons (ss_app 6 rfl (ev_call D__law_at rfl (hr.mono (show 1 ≤ 1 by decide)) tk (ea_cons (eb_var 0) (ea_cons (ev_add rfl (ev_add rfl (eb_var 1) (ev_mul ev_int.b (eb_var 7)).b).b ev_int.b).b (ea_cons (eb_ix rfl (eb_lst (ea_cons ev_int.b (ea_cons ev_int.b ea_nil))) (eb_var 3)) ea_nil)))))
    (sb_one (ss_if (et_w (ew_and (et_cmp op_gt op2_gt (eb_var 7) ev_int.b (nomark _)) (ew_and1 (et_cmp (opr_eq hr.units) op2_eq (ev_call D__law_at rfl (hr.mono (show 1 ≤ 1 by decide)) tk (ea_cons (eb_var 0) (ea_cons (ev_add rfl (ev_add rfl (eb_var 1) (ev_mul ev_int.b (eb_var 7)).b).b ev_int.b).b (ea_cons ev_int.b ea_nil)))).b ev_int.b (nomark _))))) (sb_one (ss_ix 6 (eb_ix rfl (eb_var 6) (ev_sub (eb_var 7) ev_int.b).b) (eb_var 7))) sb_nil))))))
  (sb_cons (ss_if (et_cmp (opr_eq hr.units) op2_eq (eb_var 4) ev_int.b (nomark _)) (sb_one (ss_set 6 (by exact True.intro) S.nd (c_sorted rfl T.b_sorted (ea_cons (eb_var 6) ea_nil)))) sb_nil)
  (sb_cons (ss_if (et_cmp (opr_eq hr.units) op2_eq (eb_var 4) ev_int.b (nomark _)) (sb_one (ss_set 6 (by exact True.intro) S.nd (ev_sortB true rfl T.b_sorted (eb_var 6)))) sb_nil)
  (sb_one (ss_ret (ev_comp [("k", 7)] (fun v hv => by exact True.intro) rfl S.nd (it_c (it_rng1 T.b_range (ea_cons (eb_var 2) ea_nil))) (blkOk_by (N := N__law_steps) (sc := defScope s__law_steps) (by decide +kernel)) (fun _ _ _ _ _ => (gt_name 7 (by exact True.intro) S.nd)) (fun _ _ _ _ _ => ec_nil) (fun _ _ _ _ _ => (ev_tup (eav_cons (eb_ix rfl (eb_var 5) (eb_var 7)).v (eav_cons (eb_ix rfl (eb_var 6) (eb_var 7)).v eav_nil))))))))))))
abbrev N__law_plans : List Str := ["row", "many", "most", "wide", "plans", "k", "at", "standing", "steps", "spot", "price"]
theorem sc__law_plans : FnScope ["row", "many", "most", "wide", "plans", "k", "at", "standing", "steps", "spot", "price"] ["row", "many", "most", "wide"] (defScope s__law_plans) := ⟨rfl, rfl, rfl, by decide +kernel, rfl, by decide +kernel, by decide +kernel⟩
theorem ok__law_plans (T : Txt K mg) (D__law_at : FnE P w K mg base "_law_at" 3 1 m__law_at) (D__law_steps : FnE P w K mg base "_law_steps" 5 2 m__law_steps) {f : Addr} {fd : FuncData} (F : Fun K "_law_plans" "_law_plans" s__law_plans f fd) : FnOk P w K mg base (L2.CX P w) 3 f fd ["row", "many", "most", "wide"] (spF ⟨K, mg⟩ 4 m__law_plans) :=
  have S := sc__law_plans
  fn_mk (k := 2) F sc__law_plans fun cdv A outer s H H0 F0 E hr tk =>
  (sb_cons (ss_set 4 (by exact True.intro) S.nd (ev_lst eav_nil))
  (sb_cons (ss_for (passes_of rfl) rfl (it_rng1 T.b_range (ea_cons (eb_var 1) ea_nil)) (fun _ _ => (gt_name 5 (by exact True.intro) S.nd)) (fun _ _ => (sb_cons (ss_set 6 (by exact True.intro) S.nd (ev_mul ev_int.b (eb_var 5)))
    (sb_cons (ss_set 7 (by exact True.intro) S.nd (ev_call D__law_at rfl (hr.mono (show 1 ≤ 2 by decide)) tk (ea_cons (eb_var 0) (ea_cons (eb_var 6) (ea_cons (eb_ix rfl (eb_lst (ea_cons ev_int.b (ea_cons ev_int.b ea_nil))) (eb_var 3)) ea_nil)))))
    (sb_cons (ss_set 8 (by exact True.intro) S.nd (ev_call D__law_steps rfl (hr.mono (show 2 ≤ 2 by decide)) tk (ea_cons (eb_var 0) (ea_cons (ev_add rfl (eb_var 6) ev_int.b).b (ea_cons (ev_add rfl (ev_call D__law_at rfl (hr.mono (show 1 ≤ 2 by decide)) tk (ea_cons (eb_var 0) (ea_cons (ev_add rfl (eb_var 6) ev_int.b).b (ea_cons (eb_var 2) ea_nil)))).b ev_int.b).b (ea_cons (eb_var 3) (ea_cons ev_int.b ea_nil)))))))
    (sb_cons (ss_if (et_w (ew_and (et_cmp op_gt op2_gt (eb_var 5) ev_int.b (nomark _)) (ew_and1 (et_cmp op_gt op2_gt (ev_call D__law_at rfl (hr.mono (show 1 ≤ 2 by decide)) tk (ea_cons (eb_var 0) (ea_cons (ev_add rfl (eb_var 6) ev_int.b).b (ea_cons ev_int.b ea_nil)))).b ev_int.b (nomark _))))) (sb_cons (ss_set 7 (by exact True.intro) S.nd (c_max2 rfl T.b_max (ea_cons ev_int.b (ea_cons (c_min2 rfl T.b_min (ea_cons ev_int.b (ea_cons (ev_sub (ev_add rfl (eb_ix rfl (eb_ix rfl (eb_var 4) (ev_sub (eb_var 5) ev_int.b).b) ev_int.b) (ev_call D__law_at rfl (hr.mono (show 1 ≤ 2 by decide)) tk (ea_cons (eb_var 0) (ea_cons (eb_var 6) (ea_cons ev_int.b ea_nil)))).b).b ev_int.b).b ea_nil))).b ea_nil))))
      (sb_cons (ss_set 8 (by exact True.intro) S.nd (c_list rfl T.b_list (ea_cons (eb_ix rfl (eb_ix rfl (eb_var 4) (ev_sub (eb_var 5) ev_int.b).b) ev_int.b) ea_nil)))
      (sb_cons (ss_set 9 (by exact True.intro) S.nd (ev_call D__law_at rfl (hr.mono (show 1 ≤ 2 by decide)) tk (ea_cons (eb_var 0) (ea_cons (ev_add rfl (eb_var 6) ev_int.b).b (ea_cons (c_len rfl T.b_len (ea_cons (eb_var 8) ea_nil)).b ea_nil)))))
      (sb_cons (ss_set 10 (by exact True.intro) S.nd (c_max2 rfl T.b_max (ea_cons ev_int.b (ea_cons (c_min2 rfl T.b_min (ea_cons ev_int.b (ea_cons (ev_sub (ev_add rfl (eb_ix rfl (eb_ix rfl (eb_var 8) (eb_var 9)) ev_int.b) (ev_call D__law_at rfl (hr.mono (show 1 ≤ 2 by decide)) tk (ea_cons (eb_var 0) (ea_cons (ev_add rfl (eb_var 6) ev_int.b).b (ea_cons ev_int.b ea_nil)))).b).b ev_int.b).b ea_nil))).b ea_nil))))
      (sb_one (ss_ix 8 (eb_tup (ea_cons (eb_ix rfl (eb_ix rfl (eb_var 8) (eb_var 9)) ev_int.b) (ea_cons (eb_var 10) ea_nil))) (eb_var 9))))))) sb_nil)
    (sb_frz 8 (sb_one (ss_app 4 rfl (ev_tup (eav_cons (eb_var 7).v (eav_cons (eb_var 8).v eav_nil))))))))))))
  (sb_one (ss_retV 4))))
abbrev N_TooMany___init__ : List Str := ["self", "limit"]
theorem sc_TooMany___init__ : FnScope ["self", "limit"] ["self", "limit"] (defScope s_TooMany___init__) := ⟨rfl, rfl, rfl, by decide +kernel, rfl, by decide +kernel, by decide +kernel⟩
theorem ok_TooMany___init__ {f : Addr} {fd : FuncData} (F : Fun K "__init__" "TooMany.__init__" s_TooMany___init__ f fd) : FnOk P w K mg base (L2.CX P w) 1 f fd ["self", "limit"] (spX K ["limit"]) := ex_mk1 F sc_TooMany___init__ fun cdv A outer s H E => pss_one (ps_ost (pv 0) (pv 1))
abbrev N_check_tariffs : List Str := ["tariffs"]
theorem sc_check_tariffs : FnScope ["tariffs"] ["tariffs"] (defScope s_check_tariffs) := ⟨rfl, rfl, rfl, by decide +kernel, rfl, by decide +kernel, by decide +kernel⟩
theorem ok_check_tariffs (T : Txt K mg) (D_TooMany : ExNH P w K mg base "TooMany" ["limit"]) {f : Addr} {fd : FuncData} (F : Fun K "check_tariffs" "check_tariffs" s_check_tariffs f fd) : FnOk P w K mg base (L2.CX P w) 3 f fd ["tariffs"] (spF ⟨K, mg⟩ 1 m_check_tariffs) :=
  have S := sc_check_tariffs
  fn_mk (k := 2) F sc_check_tariffs fun cdv A outer s H H0 F0 E hr tk =>
  (sb_cons (ss_if (et_not (et_val rfl (eb_var 0))) (sb_one (s_raise0 T.x_Empty rfl rfl tk)) sb_nil)
  (sb_one (ss_if (et_cmp op_gt op2_gt (c_len rfl T.b_len (ea_cons (eb_var 0) ea_nil)).b (ev_gi T.c_MOST_TARIFFS).b (nomark _)) (sb_one (s_raise D_TooMany rfl rfl (hr.mono (by decide)) tk (ea_cons (ev_gi T.c_MOST_TARIFFS).b ea_nil))) sb_nil)))
abbrev N_check_choice : List Str := ["tariffs", "k"]
theorem sc_check_choice : FnScope ["tariffs", "k"] ["tariffs", "k"] (defScope s_check_choice) := ⟨rfl, rfl, rfl, by decide +kernel, rfl, by decide +kernel, by decide +kernel⟩
theorem ok_check_choice (T : Txt K mg) (D_check_tariffs : FnE P w K mg base "check_tariffs" 1 3 m_check_tariffs) {f : Addr} {fd : FuncData} (F : Fun K "check_choice" "check_choice" s_check_choice f fd) : FnOk P w K mg base (L2.CX P w) 4 f fd ["tariffs", "k"] (spF ⟨K, mg⟩ 2 m_check_choice) :=
  have S := sc_check_choice
  fn_mk (k := 3) F sc_check_choice fun cdv A outer s H H0 F0 E hr tk =>
  (sb_cons (ss_drop (ev_call D_check_tariffs rfl (hr.mono (show 3 ≤ 3 by decide)) tk (ea_cons (eb_var 0) ea_nil)).b)
  (sb_one (ss_if (et_not (et_ch2 op_le op2_le op_lt op2_lt ev_int.b (eb_var 1) (c_len rfl T.b_len (ea_cons (eb_var 0) ea_nil)).b)) (sb_one (s_raise0 T.x_OutOfRange rfl rfl tk)) sb_nil)))
abbrev N_check_uses : List Str := ["days", "least", "greatest"]
theorem sc_check_uses : FnScope ["days", "least", "greatest"] ["days", "least", "greatest"] (defScope s_check_uses) := ⟨rfl, rfl, rfl, by decide +kernel, rfl, by decide +kernel, by decide +kernel⟩
theorem ok_check_uses (T : Txt K mg)  {f : Addr} {fd : FuncData} (F : Fun K "check_uses" "check_uses" s_check_uses f fd) : FnOk P w K mg base (L2.CX P w) 1 f fd ["days", "least", "greatest"] (spF ⟨K, mg⟩ 3 m_check_uses) :=
  have S := sc_check_uses
  fn_mk (k := 0) F sc_check_uses fun cdv A outer s H H0 F0 E hr tk =>
  (sb_cons (ss_if (et_not (et_ch2 op_le op2_le op_le op2_le ev_int.b (eb_var 0) (ev_gi T.c_MOST_DAYS).b)) (sb_one (s_raise0 T.x_OutOfRange rfl rfl tk)) sb_nil)
  (sb_one (ss_if (et_not (et_ch3 op_le op2_le op_le op2_le op_le op2_le ev_int.b (eb_var 1) (eb_var 2) (ev_gi T.c_MOST_USE).b)) (sb_one (s_raise0 T.x_OutOfRange rfl rfl tk)) sb_nil)))
abbrev N_check_use : List Str := ["use", "days"]
theorem sc_check_use : FnScope ["use", "days"] ["use", "days"] (defScope s_check_use) := ⟨rfl, rfl, rfl, by decide +kernel, rfl, by decide +kernel, by decide +kernel⟩
theorem ok_check_use (T : Txt K mg)  {f : Addr} {fd : FuncData} (F : Fun K "check_use" "check_use" s_check_use f fd) : FnOk P w K mg base (L2.CX P w) 1 f fd ["use", "days"] (spF ⟨K, mg⟩ 2 m_check_use) :=
  have S := sc_check_use
  fn_mk (k := 0) F sc_check_use fun cdv A outer s H H0 F0 E hr tk =>
  (sb_cons (ss_if (et_not (et_ch2 op_le op2_le op_le op2_le ev_int.b (eb_var 0) (ev_gi T.c_MOST_USE).b)) (sb_one (s_raise0 T.x_OutOfRange rfl rfl tk)) sb_nil)
  (sb_one (ss_if (et_not (et_ch2 op_le op2_le op_le op2_le ev_int.b (eb_var 1) (ev_gi T.c_MOST_DAYS).b)) (sb_one (s_raise0 T.x_OutOfRange rfl rfl tk)) sb_nil)))
abbrev N_Tariff_charge : List Str := ["self", "use", "days", "total", "last", "unit", "price"]
theorem sc_Tariff_charge : FnScope ["self", "use", "days", "total", "last", "unit", "price"] ["self", "use", "days"] (defScope s_Tariff_charge) := ⟨rfl, rfl, rfl, by decide +kernel, rfl, by decide +kernel, by decide +kernel⟩
theorem ok_Tariff_charge (T : Txt K mg) (D_check_use : FnE P w K mg base "check_use" 2 1 m_check_use) {f : Addr} {fd : FuncData} (F : Fun K "charge" "Tariff.charge" s_Tariff_charge f fd) : FnOk P w K mg base (L2.CX P w) 2 f fd ["self", "use", "days"] (spF ⟨K, mg⟩ 3 m_Tariff_charge) :=
  have S := sc_Tariff_charge
  fn_mk (k := 1) F sc_Tariff_charge fun cdv A outer s H H0 F0 E hr tk =>
  (sb_cons (ss_drop (ev_call D_check_use rfl (hr.mono (show 1 ≤ 1 by decide)) tk (ea_cons (eb_var 1) (ea_cons (eb_var 2) ea_nil))).b)
  (sb_cons (ss_set 3 (by exact True.intro) S.nd (ev_mul (eb_fld rfl (eb_var 0)) (eb_var 2)))
  (sb_cons (ss_set 4 (by exact True.intro) S.nd ev_int)
  (sb_cons (ss_for (passes_of rfl) rfl (it_seq rfl (eb_fld rfl (eb_var 0))) (fun _ _ => (gt_tup (gl1 (gl1 gl0)) rfl rfl (gts_cons (gt_name 5 (by exact True.intro) S.nd) (gts_cons (gt_name 6 (by exact True.intro) S.nd) gts_nil)))) (fun _ _ => (sb_cons (ss_aug 3 ip_add (by exact True.intro) S.nd (ev_mul (ev_sub (eb_var 6) (eb_var 4)).b (c_max2 rfl T.b_max (ea_cons ev_int.b (ea_cons (ev_sub (eb_var 1) (ev_mul (eb_var 5) (eb_var 2)).b).b ea_nil))).b).b)
    (sb_one (ss_set 4 (by exact True.intro) S.nd (eb_var 6).v)))))
  (sb_one (ss_retV 3))))))
abbrev N_plain_regret : List Str := ["tariffs", "k", "days", "use", "tariff"]
theorem sc_plain_regret : FnScope ["tariffs", "k", "days", "use", "tariff"] ["tariffs", "k", "days", "use"] (defScope s_plain_regret) := ⟨rfl, rfl, rfl, by decide +kernel, rfl, by decide +kernel, by decide +kernel⟩
theorem ok_plain_regret (T : Txt K mg) (D_Tariff_charge : MeH P w K mg base "Tariff" "charge" 3 2 m_Tariff_charge) {f : Addr} {fd : FuncData} (F : Fun K "plain_regret" "plain_regret" s_plain_regret f fd) : FnOk P w K mg base (L2.CX P w) 3 f fd ["tariffs", "k", "days", "use"] (spF ⟨K, mg⟩ 4 m_plain_regret) :=
  have S := sc_plain_regret
  fn_mk (k := 2) F sc_plain_regret fun cdv A outer s H H0 F0 E hr tk =>
  (sb_one (ss_ret (ev_sub (c_meth D_Tariff_charge rfl (hr.mono (by decide)) tk (eb_ix rfl (eb_var 0) (eb_var 1)) (ea_cons (eb_var 3) (ea_cons (eb_var 2) ea_nil))).b (c_min1 rfl rfl T.b_min (ea_cons (ev_comp [("tariff", 4)] (fun v hv => by exact True.intro) rfl S.nd (it_any rfl (eb_var 0)) (blkOk_by (N := N_plain_regret) (sc := defScope s_plain_regret) (by decide +kernel)) (fun _ _ _ _ _ => (gt_name 4 (by exact True.intro) S.nd)) (fun _ _ _ _ _ => ec_nil) (fun _ _ _ _ _ => (c_meth D_Tariff_charge rfl (hr.mono (by decide)) takes0 (eb_var 4) (ea_cons (eb_var 3) (ea_cons (eb_var 2) ea_nil))))).b ea_nil)).b)))
abbrev N_regret_of : List Str := ["tariffs", "k", "days", "use"]
theorem sc_regret_of : FnScope ["tariffs", "k", "days", "use"] ["tariffs", "k", "days", "use"] (defScope s_regret_of) := ⟨rfl, rfl, rfl, by decide +kernel, rfl, by decide +kernel, by decide +kernel⟩
theorem ok_regret_of (T : Txt K mg) (D_check_choice : FnE P w K mg base "check_choice" 2 4 m_check_choice) (D_check_uses : FnE P w K mg base "check_uses" 3 1 m_check_uses) (D_plain_regret : FnE P w K mg base "plain_regret" 4 3 m_plain_regret) {f : Addr} {fd : FuncData} (F : Fun K "regret_of" "regret_of" s_regret_of f fd) : FnOk P w K mg base (L2.CX P w) 5 f fd ["tariffs", "k", "days", "use"] (spF ⟨K, mg⟩ 4 m_regret_of) :=
  have S := sc_regret_of
  fn_mk (k := 4) F sc_regret_of fun cdv A outer s H H0 F0 E hr tk =>
  (sb_cons (ss_drop (ev_call D_check_choice rfl (hr.mono (show 4 ≤ 4 by decide)) tk (ea_cons (eb_var 0) (ea_cons (eb_var 1) ea_nil))).b)
  (sb_cons (ss_drop (ev_call D_check_uses rfl (hr.mono (show 1 ≤ 4 by decide)) tk (ea_cons (eb_var 2) (ea_cons (eb_var 3) (ea_cons (eb_var 3) ea_nil)))).b)
  (sb_one (ss_ret (ev_call D_plain_regret rfl (hr.mono (show 3 ≤ 4 by decide)) tk (ea_cons (eb_var 0) (ea_cons (eb_var 1) (ea_cons (eb_var 2) (ea_cons (eb_var 3) ea_nil)))))))))
abbrev N_check_frame : List Str := ["days", "top"]
theorem sc_check_frame : FnScope ["days", "top"] ["days", "top"] (defScope s_check_frame) := ⟨rfl, rfl, rfl, by decide +kernel, rfl, by decide +kernel, by decide +kernel⟩
theorem ok_check_frame (T : Txt K mg)  {f : Addr} {fd : FuncData} (F : Fun K "check_frame" "check_frame" s_check_frame f fd) : FnOk P w K mg base (L2.CX P w) 1 f fd ["days", "top"] (spF ⟨K, mg⟩ 2 m_check_frame) :=
  have S := sc_check_frame
  fn_mk (k := 0) F sc_check_frame fun cdv A outer s H H0 F0 E hr tk =>
  (sb_cons (ss_if (et_not (et_ch2 op_le op2_le op_le op2_le ev_int.b (eb_var 0) (ev_gi T.c_MOST_DAYS).b)) (sb_one (s_raise0 T.x_OutOfRange rfl rfl tk)) sb_nil)
  (sb_one (ss_if (et_not (et_ch2 op_le op2_le op_le op2_le ev_int.b (eb_var 1) (ev_gi T.c_MOST_USE).b)) (sb_one (s_raise0 T.x_OutOfRange rfl rfl tk)) sb_nil)))
abbrev N_corners_of : List Str := ["first", "second", "days", "top", "units", "unit", "price"]
theorem sc_corners_of : FnScope ["first", "second", "days", "top", "units", "unit", "price"] ["first", "second", "days", "top"] (defScope s_corners_of) := ⟨rfl, rfl, rfl, by decide +kernel, rfl, by decide +kernel, by decide +kernel⟩
theorem ok_corners_of (T : Txt K mg) (D_check_frame : FnE P w K mg base "check_frame" 2 1 m_check_frame) {f : Addr} {fd : FuncData} (F : Fun K "corners_of" "corners_of" s_corners_of f fd) : FnOk P w K mg base (L2.CX P w) 2 f fd ["first", "second", "days", "top"] (spF ⟨K, mg⟩ 4 m_corners_of) :=
  have S := sc_corners_of
  fn_mk (k := 1) F sc_corners_of fun cdv A outer s H H0 F0 E hr tk =>
  (sb_cons (ss_drop (ev_call D_check_frame rfl (hr.mono (show 1 ≤ 1 by decide)) tk (ea_cons (eb_var 2) (ea_cons (eb_var 3) ea_nil))).b)
  (sb_cons (ss_set 4 (by exact True.intro) S.nd (ev_add rfl (ev_comp [("unit", 5), ("price", 6)] (fun v hv => by exact True.intro) rfl S.nd (it_any rfl (eb_fld rfl (eb_var 0))) (blkOk_by (N := N_corners_of) (sc := defScope s_corners_of) (by decide +kernel)) (fun _ _ _ _ _ => (gt_tup (gl1 (gl1 gl0)) rfl rfl (gts_cons (gt_name 5 (by exact True.intro) S.nd) (gts_cons (gt_name 6 (by exact True.intro) S.nd) gts_nil)))) (fun _ _ _ _ _ => ec_nil) (fun _ _ _ _ _ => (eb_var 5).v)).b (ev_comp [("unit", 5), ("price", 6)] (fun v hv => by exact True.intro) rfl S.nd (it_any rfl (eb_fld rfl (eb_var 1))) (blkOk_by (N := N_corners_of) (sc := defScope s_corners_of) (by decide +kernel)) (fun _ _ _ _ _ => (gt_tup (gl1 (gl1 gl0)) rfl rfl (gts_cons (gt_name 5 (by exact True.intro) S.nd) (gts_cons (gt_name 6 (by exact True.intro) S.nd) gts_nil)))) (fun _ _ _ _ _ => ec_nil) (fun _ _ _ _ _ => (eb_var 5).v)).b))
  (sb_one (ss_ret (ev_sortSet rfl rfl T.b_sorted T.b_set (ev_add rfl (ev_lst (eav_cons ev_int (eav_cons (eb_var 3).v eav_nil))).b (ev_comp [("unit", 5)] (fun v hv => by exact True.intro) rfl S.nd (it_any rfl (eb_var 4)) (blkOk_by (N := N_corners_of) (sc := defScope s_corners_of) (by decide +kernel)) (fun _ _ _ _ _ => (gt_name 5 (by exact True.intro) S.nd)) (fun _ _ _ _ _ => (ec_one (et_cmp op_le op2_le (ev_mul (eb_var 5) (eb_var 2)).b (eb_var 3) (nomark _)))) (fun _ _ _ _ _ => (ev_mul (eb_var 5) (eb_var 2)))).b).b)))))
abbrev N_turning_uses : List Str := ["tariffs", "k", "days", "least", "greatest", "uses", "tariff", "corner"]
theorem sc_turning_uses : FnScope ["tariffs", "k", "days", "least", "greatest", "uses", "tariff", "corner"] ["tariffs", "k", "days", "least", "greatest"] (defScope s_turning_uses) := ⟨rfl, rfl, rfl, by decide +kernel, rfl, by decide +kernel, by decide +kernel⟩
theorem ok_turning_uses (T : Txt K mg) (D_corners_of : FnE P w K mg base "corners_of" 4 2 m_corners_of) {f : Addr} {fd : FuncData} (F : Fun K "turning_uses" "turning_uses" s_turning_uses f fd) : FnOk P w K mg base (L2.CX P w) 3 f fd ["tariffs", "k", "days", "least", "greatest"] (spF ⟨K, mg⟩ 5 m_turning_uses) :=
  have S := sc_turning_uses
  fn_mk (k := 2) F sc_turning_uses fun cdv A outer s H H0 F0 E hr tk =>
  (sb_cons (ss_set 5 (by exact True.intro) S.nd (ev_lst (eav_cons (eb_var 3).v (eav_cons (eb_var 4).v eav_nil))))
  (sb_cons (ss_for (passes_of rfl) rfl (it_seq rfl (eb_var 0)) (fun _ _ => (gt_name 6 (by exact True.intro) S.nd)) (fun _ _ => (sb_one (ss_for (passes_of rfl) rfl (it_new rfl (ev_call D_corners_of rfl (hr.mono (show 2 ≤ 2 by decide)) tk (ea_cons (eb_ix rfl (eb_var 0) (eb_var 1)) (ea_cons (eb_var 6) (ea_cons (eb_var 2) (ea_cons (eb_var 4) ea_nil)))))) (fun _ _ => (gt_name 7 (by exact True.intro) S.nd)) (fun _ _ => (sb_one (ss_if (et_cmp op_ge op2_ge (eb_var 7) (eb_var 3) (nomark _)) (sb_one (ss_app 5 rfl (eb_var 7).v)) sb_nil)))))))
  (sb_one (ss_ret (ev_sortSet rfl rfl T.b_sorted T.b_set (eb_var 5))))))
abbrev N_worst_of : List Str := ["tariffs", "k", "days", "least", "greatest", "best", "use", "regret"]
theorem sc_worst_of : FnScope ["tariffs", "k", "days", "least", "greatest", "best", "use", "regret"] ["tariffs", "k", "days", "least", "greatest"] (defScope s_worst_of) := ⟨rfl, rfl, rfl, by decide +kernel, rfl, by decide +kernel, by decide +kernel⟩
theorem ok_worst_of (T : Txt K mg) (D_plain_regret : FnE P w K mg base "plain_regret" 4 3 m_plain_regret) (D_turning_uses : FnE P w K mg base "turning_uses" 5 3 m_turning_uses) {f : Addr} {fd : FuncData} (F : Fun K "worst_of" "worst_of" s_worst_of f fd) : FnOk P w K mg base (L2.CX P w) 4 f fd ["tariffs", "k", "days", "least", "greatest"] (spF ⟨K, mg⟩ 5 m_worst_of) :=
  have S := sc_worst_of
  fn_mk (k := 3) F sc_worst_of fun cdv A outer s H H0 F0 E hr tk =>
  (sb_cons (ss_set 5 (by exact True.intro) S.nd (ev_tup (eav_cons (ev_call D_plain_regret rfl (hr.mono (show 3 ≤ 3 by decide)) tk (ea_cons (eb_var 0) (ea_cons (eb_var 1) (ea_cons (eb_var 2) (ea_cons (eb_var 3) ea_nil))))) (eav_cons (eb_var 3).v eav_nil))))
  (sb_cons (ss_for (passes_of rfl) rfl (it_new rfl (ev_call D_turning_uses rfl (hr.mono (show 3 ≤ 3 by decide)) tk (ea_cons (eb_var 0) (ea_cons (eb_var 1) (ea_cons (eb_var 2) (ea_cons (eb_var 3) (ea_cons (eb_var 4) ea_nil))))))) (fun _ _ => (gt_name 6 (by exact True.intro) S.nd)) (fun _ _ => (sb_cons (ss_set 7 (by exact True.intro) S.nd (ev_call D_plain_regret rfl (hr.mono (show 3 ≤ 3 by decide)) tk (ea_cons (eb_var 0) (ea_cons (eb_var 1) (ea_cons (eb_var 2) (ea_cons (eb_var 6) ea_nil))))))
    (sb_one (ss_if (et_cmp op_gt op2_gt (eb_var 7) (eb_ix rfl (eb_var 5) ev_int.b) (nomark _)) (sb_one (ss_set 5 (by exact True.intro) S.nd (ev_tup (eav_cons (eb_var 7).v (eav_cons (eb_var 6).v eav_nil))))) sb_nil)))))
  (sb_one (ss_retV 5))))
abbrev N_worst_regret : List Str := ["tariffs", "k", "days", "least", "greatest"]
theorem sc_worst_regret : FnScope ["tariffs", "k", "days", "least", "greatest"] ["tariffs", "k", "days", "least", "greatest"] (defScope s_worst_regret) := ⟨rfl, rfl, rfl, by decide +kernel, rfl, by decide +kernel, by decide +kernel⟩
theorem ok_worst_regret (T : Txt K mg) (D_check_choice : FnE P w K mg base "check_choice" 2 4 m_check_choice) (D_check_uses : FnE P w K mg base "check_uses" 3 1 m_check_uses) (D_worst_of : FnE P w K mg base "worst_of" 5 4 m_worst_of) {f : Addr} {fd : FuncData} (F : Fun K "worst_regret" "worst_regret" s_worst_regret f fd) : FnOk P w K mg base (L2.CX P w) 5 f fd ["tariffs", "k", "days", "least", "greatest"] (spF ⟨K, mg⟩ 5 m_worst_regret) :=
  have S := sc_worst_regret
  fn_mk (k := 4) F sc_worst_regret fun cdv A outer s H H0 F0 E hr tk =>
  (sb_cons (ss_drop (ev_call D_check_choice rfl (hr.mono (show 4 ≤ 4 by decide)) tk (ea_cons (eb_var 0) (ea_cons (eb_var 1) ea_nil))).b)
  (sb_cons (ss_drop (ev_call D_check_uses rfl (hr.mono (show 1 ≤ 4 by decide)) tk (ea_cons (eb_var 2) (ea_cons (eb_var 3) (ea_cons (eb_var 4) ea_nil)))).b)
  (sb_one (ss_ret (ev_call D_worst_of rfl (hr.mono (show 4 ≤ 4 by decide)) tk (ea_cons (eb_var 0) (ea_cons (eb_var 1) (ea_cons (eb_var 2) (ea_cons (eb_var 3) (ea_cons (eb_var 4) ea_nil))))))))))
abbrev N_least_regret : List Str := ["tariffs", "days", "least", "greatest", "best", "k"]
theorem sc_least_regret : FnScope ["tariffs", "days", "least", "greatest", "best", "k"] ["tariffs", "days", "least", "greatest"] (defScope s_least_regret) := ⟨rfl, rfl, rfl, by decide +kernel, rfl, by decide +kernel, by decide +kernel⟩
theorem ok_least_regret (T : Txt K mg) (D_check_tariffs : FnE P w K mg base "check_tariffs" 1 3 m_check_tariffs) (D_check_uses : FnE P w K mg base "check_uses" 3 1 m_check_uses) (D_worst_of : FnE P w K mg base "worst_of" 5 4 m_worst_of) {f : Addr} {fd : FuncData} (F : Fun K "least_regret" "least_regret" s_least_regret f fd) : FnOk P w K mg base (L2.CX P w) 5 f fd ["tariffs", "days", "least", "greatest"] (spF ⟨K, mg⟩ 4 m_least_regret) :=
  have S := sc_least_regret
  fn_mk (k := 4) F sc_least_regret fun cdv A outer s H H0 F0 E hr tk =>
  (sb_cons (ss_drop (ev_call D_check_tariffs rfl (hr.mono (show 3 ≤ 4 by decide)) tk (ea_cons (eb_var 0) ea_nil)).b)
  (sb_cons (ss_drop (ev_call D_check_uses rfl (hr.mono (show 1 ≤ 4 by decide)) tk (ea_cons (eb_var 1) (ea_cons (eb_var 2) (ea_cons (eb_var 3) ea_nil)))).b)
  (sb_cons (ss_set 4 (by exact True.intro) S.nd ev_int)
  (sb_cons (ss_for (passes_of rfl) rfl (it_rng1 T.b_range (ea_cons (c_len rfl T.b_len (ea_cons (eb_var 0) ea_nil)).b ea_nil)) (fun _ _ => (gt_name 5 (by exact True.intro) S.nd)) (fun _ _ => (sb_one (ss_if (et_cmp op_lt op2_lt (eb_ix rfl (ev_call D_worst_of rfl (hr.mono (show 4 ≤ 4 by decide)) tk (ea_cons (eb_var 0) (ea_cons (eb_var 5) (ea_cons (eb_var 1) (ea_cons (eb_var 2) (ea_cons (eb_var 3) ea_nil)))))).b ev_int.b) (eb_ix rfl (ev_call D_worst_of rfl (hr.mono (show 4 ≤ 4 by decide)) tk (ea_cons (eb_var 0) (ea_cons (eb_var 4) (ea_cons (eb_var 1) (ea_cons (eb_var 2) (ea_cons (eb_var 3) ea_nil)))))).b ev_int.b) (nomark _)) (sb_one (ss_set 4 (by exact True.intro) S.nd (eb_var 5).v)) sb_nil))))
  (sb_one (ss_ret (ev_tup (eav_cons (eb_var 4).v (eav_cons (eb_ix rfl (ev_call D_worst_of rfl (hr.mono (show 4 ≤ 4 by decide)) tk (ea_cons (eb_var 0) (ea_cons (eb_var 4) (ea_cons (eb_var 1) (ea_cons (eb_var 2) (ea_cons (eb_var 3) ea_nil)))))).b ev_int.b).v eav_nil)))))))))
abbrev N__law_called : List Str := ["door", "tariffs", "k", "days", "least", "greatest", "e"]
theorem sc__law_called : FnScope ["door", "tariffs", "k", "days", "least", "greatest", "e"] ["door", "tariffs", "k", "days", "least", "greatest"] (defScope s__law_called) := ⟨rfl, rfl, rfl, by decide +kernel, rfl, by decide +kernel, by decide +kernel⟩
theorem ok__law_called (T : Txt K mg) (D_regret_of : FnE P w K mg base "regret_of" 4 5 m_regret_of) (D_worst_regret : FnE P w K mg base "worst_regret" 5 5 m_worst_regret) (D_least_regret : FnE P w K mg base "least_regret" 4 5 m_least_regret) {f : Addr} {fd : FuncData} (F : Fun K "_law_called" "_law_called" s__law_called f fd) : FnOk P w K mg base (L2.CX P w) 6 f fd ["door", "tariffs", "k", "days", "least", "greatest"] (spF ⟨K, mg⟩ 6 m__law_called) :=
  have S := sc__law_called
  fn_mk (k := 5) F sc__law_called fun cdv A outer s H H0 F0 E hr tk =>
  (sb_cons (ss_try rfl rfl S.nd rfl tk T.sub (fun W' pn xe tk' hpo' => (sb_cons (ss_if (et_cmp (opr_eq hr.units) op2_eq (eb_var 0) ev_int.b (nomark _)) (sb_one (ss_drop (ev_call D_regret_of rfl (hr.mono (show 5 ≤ 5 by decide)) tk' (ea_cons (eb_var 1) (ea_cons (eb_var 2) (ea_cons (eb_var 3) (ea_cons (eb_var 5) ea_nil))))).b)) sb_nil)
    (sb_cons (ss_if (et_cmp (opr_eq hr.units) op2_eq (eb_var 0) ev_int.b (nomark _)) (sb_one (ss_drop (ev_call D_worst_regret rfl (hr.mono (show 5 ≤ 5 by decide)) tk' (ea_cons (eb_var 1) (ea_cons (eb_var 2) (ea_cons (eb_var 3) (ea_cons (eb_var 4) (ea_cons (eb_var 5) ea_nil)))))).b)) sb_nil)
    (sb_one (ss_if (et_cmp (opr_eq hr.units) op2_eq (eb_var 0) ev_int.b (nomark _)) (sb_one (ss_drop (ev_call D_least_regret rfl (hr.mono (show 5 ≤ 5 by decide)) tk' (ea_cons (eb_var 1) (ea_cons (eb_var 3) (ea_cons (eb_var 4) (ea_cons (eb_var 5) ea_nil))))).b)) sb_nil))))) (hd_cons T.n_Empty (fun fs G' C a oe d pn hT' hp hx hz hf hC => (sb_one (ss_ret ev_str))) (hd_consA 6 T.n_TooMany rfl (fun fs G' C a oe d pn hT' hp hx hz hf hC => (sb_one (ss_ret (ev_add ((congrArg Tx.K hT').symm) ev_str.b (c_str T.b_str (ea_cons (ev_xfH (T.xf_TooMany) "limit" (by simp) hz hf hp hx hC).b ea_nil)).b)))) (hd_cons T.n_OutOfRange (fun fs G' C a oe d pn hT' hp hx hz hf hC => (sb_one (ss_ret ev_str))) (hd_cons T.n_MeterError (fun fs G' C a oe d pn hT' hp hx hz hf hC => (sb_one (ss_ret ev_str))) hd_nil)))))
  (sb_one (ss_ret ev_str)))
abbrev N__law_refused : List Str := ["row", "tariffs", "far", "many", "nine", "door", "due", "one"]
theorem sc__law_refused : FnScope ["row", "tariffs", "far", "many", "nine", "door", "due", "one"] ["row", "tariffs"] (defScope s__law_refused) := ⟨rfl, rfl, rfl, by decide +kernel, rfl, by decide +kernel, by decide +kernel⟩
theorem ok__law_refused (T : Txt K mg) (D__law_at : FnE P w K mg base "_law_at" 3 1 m__law_at) (D__law_called : FnE P w K mg base "_law_called" 6 6 m__law_called) {f : Addr} {fd : FuncData} (F : Fun K "_law_refused" "_law_refused" s__law_refused f fd) : FnOk P w K mg base (L2.CX P w) 7 f fd ["row", "tariffs"] (spF ⟨K, mg⟩ 2 m__law_refused) :=
  have S := sc__law_refused
  fn_mk (k := 6) F sc__law_refused fun cdv A outer s H H0 F0 E hr tk =>
  (sb_cons (ss_set 2 (by exact True.intro) S.nd (ev_mul (ev_call D__law_at rfl (hr.mono (show 1 ≤ 6 by decide)) tk (ea_cons (eb_var 0) (ea_cons ev_int.b (ea_cons ev_int.b ea_nil)))).b (ev_call D__law_at rfl (hr.mono (show 1 ≤ 6 by decide)) tk (ea_cons (eb_var 0) (ea_cons ev_int.b (ea_cons ev_int.b ea_nil)))).b))
  (sb_cons (ss_set 3 (by exact True.intro) S.nd (c_len rfl T.b_len (ea_cons (eb_var 1) ea_nil)))
  (sb_cons (ss_set 4 (by exact True.intro) S.nd (ev_cut rfl (ev_mul (eb_var 1) ev_int.b).b eo_none (eo_some ev_int.b)))
  (sb_frz 4 (sb_cons (ss_for (passes_of rfl) rfl (it_rng1 T.b_range (ea_cons ev_int.b ea_nil)) (fun _ _ => (gt_name 5 (by exact True.intro) S.nd)) (fun _ _ => (sb_frz 4 (sb_cons (ss_set 6 (by exact True.intro) S.nd (ev_lst (eav_cons (ev_tup (eav_cons (ev_lst eav_nil).frz (eav_cons ev_int (eav_cons ev_int (eav_cons ev_int (eav_cons ev_int (eav_cons ev_str eav_nil))))))) (eav_cons (ev_tup (eav_cons (ev_lst eav_nil).frz (eav_cons ev_int (eav_cons ev_int (eav_cons ev_int (eav_cons (ev_neg ev_int.b) (eav_cons ev_str eav_nil))))))) (eav_cons (ev_tup (eav_cons (eb_var 4).v (eav_cons ev_int (eav_cons ev_int (eav_cons ev_int (eav_cons ev_int (eav_cons ev_str eav_nil))))))) (eav_cons (ev_tup (eav_cons (eb_var 4).v (eav_cons ev_int (eav_cons ev_int (eav_cons ev_int (eav_cons (ev_neg ev_int.b) (eav_cons ev_str eav_nil))))))) eav_nil))))))
    (sb_cons (ss_set 6 (by exact True.intro) S.nd (ev_add rfl (eb_var 6) (ev_lst (eav_cons (ev_tup (eav_cons (eb_var 1).v (eav_cons ev_int (eav_cons ev_int (eav_cons ev_int (eav_cons ev_int (eav_cons ev_str eav_nil))))))) (eav_cons (ev_tup (eav_cons (eb_var 1).v (eav_cons ev_int (eav_cons (ev_neg (eb_var 2)) (eav_cons ev_int (eav_cons ev_int (eav_cons ev_str eav_nil))))))) (eav_cons (ev_tup (eav_cons (eb_var 1).v (eav_cons ev_int (eav_cons (ev_add rfl ev_int.b (eb_var 2)) (eav_cons ev_int (eav_cons ev_int (eav_cons ev_str eav_nil))))))) eav_nil)))).b))
    (sb_cons (ss_set 6 (by exact True.intro) S.nd (ev_add rfl (eb_var 6) (ev_lst (eav_cons (ev_tup (eav_cons (eb_var 1).v (eav_cons (ev_sub (eb_var 3) ev_int.b) (eav_cons ev_int (eav_cons ev_int (eav_cons (ev_add rfl ev_int.b (eb_var 2)) (eav_cons ev_str eav_nil))))))) (eav_cons (ev_tup (eav_cons (eb_var 1).v (eav_cons ev_int (eav_cons ev_int (eav_cons (ev_sub (ev_neg ev_int.b).b (eb_var 2)) (eav_cons (ev_neg ev_int.b) (eav_cons ev_str eav_nil))))))) eav_nil))).b))
    (sb_cons (ss_set 6 (by exact True.intro) S.nd (ev_add rfl (eb_var 6) (ev_lst (eav_cons (ev_tup (eav_cons (eb_var 1).v (eav_cons (ev_sub (eb_var 3) ev_int.b) (eav_cons ev_int (eav_cons ev_int (eav_cons ev_int (eav_cons ev_str eav_nil))))))) (eav_cons (ev_tup (eav_cons (ev_cut rfl (eb_var 4) eo_none (eo_some ev_int.b)).frz (eav_cons ev_int (eav_cons ev_int (eav_cons ev_int (eav_cons ev_int (eav_cons ev_str eav_nil))))))) eav_nil))).b))
    (sb_cons (ss_if (et_cmp op_lt op2_lt (eb_var 5) ev_int.b (nomark _)) (sb_one (ss_set 6 (by exact True.intro) S.nd (ev_add rfl (eb_var 6) (ev_lst (eav_cons (ev_tup (eav_cons (eb_var 1).v (eav_cons (ev_add rfl (eb_var 3) (eb_var 2)) (eav_cons ev_int (eav_cons ev_int (eav_cons ev_int (eav_cons ev_str eav_nil))))))) (eav_cons (ev_tup (eav_cons (eb_var 1).v (eav_cons (ev_sub (ev_neg ev_int.b).b (eb_var 2)) (eav_cons ev_int (eav_cons ev_int (eav_cons ev_int (eav_cons ev_str eav_nil))))))) (eav_cons (ev_tup (eav_cons (ev_lst eav_nil).frz (eav_cons (ev_neg ev_int.b) (eav_cons ev_int (eav_cons ev_int (eav_cons ev_int (eav_cons ev_str eav_nil))))))) eav_nil)))).b))) sb_nil)
    (sb_cons (ss_if (et_cmp op_gt op2_gt (eb_var 5) ev_int.b (nomark _)) (sb_one (ss_set 6 (by exact True.intro) S.nd (ev_add rfl (eb_var 6) (ev_lst (eav_cons (ev_tup (eav_cons (eb_var 1).v (eav_cons ev_int (eav_cons ev_int (eav_cons (ev_add rfl ev_int.b (eb_var 2)) (eav_cons ev_int (eav_cons ev_str eav_nil))))))) (eav_cons (ev_tup (eav_cons (eb_var 1).v (eav_cons ev_int (eav_cons ev_int (eav_cons (ev_sub (ev_neg ev_int.b).b (eb_var 2)) (eav_cons ev_int (eav_cons ev_str eav_nil))))))) eav_nil))).b))) sb_nil)
    (sb_frz 6 (sb_one (ss_for (passes_of rfl) rfl (it_seq rfl (eb_var 6)) (fun _ _ => (gt_name 7 (by exact True.intro) S.nd)) (fun _ _ => (sb_one (ss_if (et_cmp (opr_ne hr.units) op2_ne (ev_call D__law_called rfl (hr.mono (show 6 ≤ 6 by decide)) tk (ea_cons (eb_var 5) (ea_cons (eb_ix rfl (eb_var 7) ev_int.b) (ea_cons (eb_ix rfl (eb_var 7) ev_int.b) (ea_cons (eb_ix rfl (eb_var 7) ev_int.b) (ea_cons (eb_ix rfl (eb_var 7) ev_int.b) (ea_cons (eb_ix rfl (eb_var 7) ev_int.b) ea_nil))))))).b (eb_ix rfl (eb_var 7) ev_int.b) (nomark _)) (sb_one (ss_ret ev_bl)) sb_nil)))))))))))))))
  (sb_one (ss_ret ev_bl)))))))
abbrev N__law_cell : List Str := ["script", "k"]
theorem sc__law_cell : FnScope ["script", "k"] ["script", "k"] (defScope s__law_cell) := ⟨rfl, rfl, rfl, by decide +kernel, rfl, by decide +kernel, by decide +kernel⟩
theorem ok__law_cell (T : Txt K mg)  {f : Addr} {fd : FuncData} (F : Fun K "_law_cell" "_law_cell" s__law_cell f fd) : FnOk P w K mg base (L2.CX P w) 1 f fd ["script", "k"] (spF ⟨K, mg⟩ 2 m__law_cell) :=
  have S := sc__law_cell
  fn_mk (k := 0) F sc__law_cell fun cdv A outer s H H0 F0 E hr tk =>
  (sb_cons (ss_if (et_cmp op_lt op2_lt (eb_var 1) (c_len rfl T.b_len (ea_cons (eb_var 0) ea_nil)).b (nomark _)) (sb_one (ss_ret (eb_ix rfl (eb_var 0) (eb_var 1)).v)) sb_nil)
  (sb_one (ss_ret ev_int)))
abbrev N_check_steps : List Str := ["steps", "last", "unit", "price"]
theorem sc_check_steps : FnScope ["steps", "last", "unit", "price"] ["steps"] (defScope s_check_steps) := ⟨rfl, rfl, rfl, by decide +kernel, rfl, by decide +kernel, by decide +kernel⟩
theorem ok_check_steps (T : Txt K mg) (D_TooMany : ExNH P w K mg base "TooMany" ["limit"]) {f : Addr} {fd : FuncData} (F : Fun K "check_steps" "check_steps" s_check_steps f fd) : FnOk P w K mg base (L2.CX P w) 3 f fd ["steps"] (spF ⟨K, mg⟩ 1 m_check_steps) :=
  have S := sc_check_steps
  fn_mk (k := 2) F sc_check_steps fun cdv A outer s H H0 F0 E hr tk =>
  (sb_cons (ss_if (et_not (et_val rfl (eb_var 0))) (sb_one (s_raise0 T.x_Empty rfl rfl tk)) sb_nil)
  (sb_cons (ss_if (et_cmp op_gt op2_gt (c_len rfl T.b_len (ea_cons (eb_var 0) ea_nil)).b (ev_gi T.c_MOST_STEPS).b (nomark _)) (sb_one (s_raise D_TooMany rfl rfl (hr.mono (by decide)) tk (ea_cons (ev_gi T.c_MOST_STEPS).b ea_nil))) sb_nil)
  (sb_cons (ss_set 1 (by exact True.intro) S.nd (ev_neg ev_int.b))
  (sb_one (ss_for (passes_of rfl) rfl (it_seq rfl (eb_var 0)) (fun _ _ => (gt_tup (gl1 (gl1 gl0)) rfl rfl (gts_cons (gt_name 2 (by exact True.intro) S.nd) (gts_cons (gt_name 3 (by exact True.intro) S.nd) gts_nil)))) (fun _ _ => (sb_cons (ss_if (et_w (ew_or (et_w (ew_and (et_cmp op_lt op2_lt (eb_var 1) ev_int.b (nomark _)) (ew_and1 (et_cmp (opr_ne hr.units) op2_ne (eb_var 2) ev_int.b (nomark _))))) (ew_or1 (et_cmp op_le op2_le (eb_var 2) (eb_var 1) (nomark _))))) (sb_one (s_raise0 T.x_BadOrder rfl rfl tk)) sb_nil)
    (sb_cons (ss_if (et_w (ew_or (et_cmp op_gt op2_gt (eb_var 2) (ev_gi T.c_MOST_UNIT).b (nomark _)) (ew_or1 (et_not (et_ch2 op_le op2_le op_le op2_le ev_int.b (eb_var 3) (ev_gi T.c_MOST_PRICE).b))))) (sb_one (s_raise0 T.x_OutOfRange rfl rfl tk)) sb_nil)
    (sb_one (ss_set 1 (by exact True.intro) S.nd (eb_var 2).v))))))))))
abbrev N_Tariff___init__ : List Str := ["self", "standing", "steps"]
theorem sc_Tariff___init__ : FnScope ["self", "standing", "steps"] ["self", "standing", "steps"] (defScope s_Tariff___init__) := ⟨rfl, rfl, rfl, by decide +kernel, rfl, by decide +kernel, by decide +kernel⟩
theorem ok_Tariff___init__ (T : Txt K mg) (D_check_steps : FnE P w K mg base "check_steps" 1 3 m_check_steps) {f : Addr} {fd : FuncData} (F : Fun K "__init__" "Tariff.__init__" s_Tariff___init__ f fd) : FnOk P w K mg base (L2.CX P w) 4 f fd ["self", "standing", "steps"] (spI ⟨K, mg⟩ "Tariff" 2 m_Tariff___init__) :=
  have S := sc_Tariff___init__
  in_mk (k := 3) F sc_Tariff___init__ fun cdv A outer s H H0 F0 E x0 hr tk =>
  (sb_cons (ss_if (et_not (et_ch2 op_le op2_le op_le op2_le ev_int.b (eb_var 1) (ev_gi T.c_MOST_PRICE).b)) (sb_one (s_raise0 T.x_OutOfRange rfl rfl tk)) sb_nil)
  (sb_cons (ss_drop (ev_call D_check_steps rfl (hr.mono (show 3 ≤ 3 by decide)) tk (ea_cons (eb_var 2) ea_nil)).b)
  (sb_cons (s_fld T.cl_Tariff (by simp) rfl (eb_var 1).v)
  (sb_one (s_fld T.cl_Tariff (by simp) rfl (c_tuple rfl T.b_tuple (ea_cons (eb_var 2) ea_nil)))))))
abbrev N__law_uses : List Str := ["plans", "days", "least", "greatest", "uses", "one", "step"]
theorem sc__law_uses : FnScope ["plans", "days", "least", "greatest", "uses", "one", "step"] ["plans", "days", "least", "greatest"] (defScope s__law_uses) := ⟨rfl, rfl, rfl, by decide +kernel, rfl, by decide +kernel, by decide +kernel⟩
theorem ok__law_uses (T : Txt K mg)  {f : Addr} {fd : FuncData} (F : Fun K "_law_uses" "_law_uses" s__law_uses f fd) : FnOk P w K mg base (L2.CX P w) 1 f fd ["plans", "days", "least", "greatest"] (spF ⟨K, mg⟩ 4 m__law_uses) :=
  have S := sc__law_uses
  fn_mk (k := 0) F sc__law_uses fun cdv A outer s H H0 F0 E hr tk =>
  (sb_cons (ss_if (et_cmp op_lt op2_lt (ev_sub (eb_var 3) (eb_var 2)).b ev_int.b (nomark _)) (sb_one (ss_ret (ev_lrg2 rfl T.b_list T.b_range (eb_var 2) (ev_add rfl (eb_var 3) ev_int.b).b))) sb_nil)
  (sb_cons (ss_set 4 (by exact True.intro) S.nd (ev_lst (eav_cons (eb_var 2).v (eav_cons (eb_var 3).v eav_nil))))
  (sb_cons (ss_for (passes_of rfl) rfl (it_seq rfl (eb_var 0)) (fun _ _ => (gt_name 5 (by exact True.intro) S.nd)) (fun _ _ => (sb_one (ss_set 4 (by exact True.intro) S.nd (ev_add rfl (eb_var 4) (ev_comp [("step", 6)] (fun v hv => by exact True.intro) rfl S.nd (it_any rfl (eb_ix rfl (eb_var 5) ev_int.b)) (blkOk_by (N := N__law_uses) (sc := defScope s__law_uses) (by decide +kernel)) (fun _ _ _ _ _ => (gt_name 6 (by exact True.intro) S.nd)) (fun _ _ _ _ _ => (ec_one (et_ch2 op_lt op2_lt op_lt op2_lt (eb_var 2) (ev_mul (eb_ix rfl (eb_var 6) ev_int.b) (eb_var 1)).b (eb_var 3)))) (fun _ _ _ _ _ => (ev_mul (eb_ix rfl (eb_var 6) ev_int.b) (eb_var 1)))).b)))))
  (sb_one (ss_ret (c_sorted rfl T.b_sorted (ea_cons (eb_var 4) ea_nil)))))))
abbrev N__law_lines : List Str := ["standing", "steps", "days", "use", "lines", "k", "end"]
theorem sc__law_lines : FnScope ["standing", "steps", "days", "use", "lines", "k", "end"] ["standing", "steps", "days", "use"] (defScope s__law_lines) := ⟨rfl, rfl, rfl, by decide +kernel, rfl, by decide +kernel, by decide +kernel⟩
theorem ok__law_lines (T : Txt K mg)  {f : Addr} {fd : FuncData} (F : Fun K "_law_lines" "_law_lines" s__law_lines f fd) : FnOk P w K mg base (L2.CX P w) 1 f fd ["standing", "steps", "days", "use"] (spF ⟨K, mg⟩ 4 m__law_lines) :=
  have S := sc__law_lines
  fn_mk (k := 0) F sc__law_lines fun cdv A outer s H H0 F0 E hr tk =>
  (sb_cons (ss_set 4 (by exact True.intro) S.nd (ev_lst (eav_cons (ev_tup (eav_cons (eb_var 2).v (eav_cons (eb_var 0).v eav_nil))) eav_nil)))
  (sb_cons (ss_for (passes_of rfl) rfl (it_rng1 T.b_range (ea_cons (c_len rfl T.b_len (ea_cons (eb_var 1) ea_nil)).b ea_nil)) (fun _ _ => (gt_name 5 (by exact True.intro) S.nd)) (fun _ _ => (sb_cons (ss_set 6 (by exact True.intro) S.nd (eb_var 3).v)
    (sb_cons (ss_if (et_cmp op_lt op2_lt (ev_add rfl (eb_var 5) ev_int.b).b (c_len rfl T.b_len (ea_cons (eb_var 1) ea_nil)).b (nomark _)) (sb_one (ss_set 6 (by exact True.intro) S.nd (c_min2 rfl T.b_min (ea_cons (eb_var 3) (ea_cons (ev_mul (eb_ix rfl (eb_ix rfl (eb_var 1) (ev_add rfl (eb_var 5) ev_int.b).b) ev_int.b) (eb_var 2)).b ea_nil))))) sb_nil)
    (sb_one (ss_if (et_cmp op_gt op2_gt (eb_var 6) (ev_mul (eb_ix rfl (eb_ix rfl (eb_var 1) (eb_var 5)) ev_int.b) (eb_var 2)).b (nomark _)) (sb_one (ss_app 4 rfl (ev_tup (eav_cons (ev_sub (eb_var 6) (ev_mul (eb_ix rfl (eb_ix rfl (eb_var 1) (eb_var 5)) ev_int.b) (eb_var 2)).b) (eav_cons (eb_ix rfl (eb_ix rfl (eb_var 1) (eb_var 5)) ev_int.b).v eav_nil))))) sb_nil))))))
  (sb_one (ss_retV 4))))
abbrev N__law_charge : List Str := ["standing", "steps", "days", "use", "one"]
theorem sc__law_charge : FnScope ["standing", "steps", "days", "use", "one"] ["standing", "steps", "days", "use"] (defScope s__law_charge) := ⟨rfl, rfl, rfl, by decide +kernel, rfl, by decide +kernel, by decide +kernel⟩
theorem ok__law_charge (T : Txt K mg) (D__law_lines : FnE P w K mg base "_law_lines" 4 1 m__law_lines) {f : Addr} {fd : FuncData} (F : Fun K "_law_charge" "_law_charge" s__law_charge f fd) : FnOk P w K mg base (L2.CX P w) 2 f fd ["standing", "steps", "days", "use"] (spF ⟨K, mg⟩ 4 m__law_charge) :=
  have S := sc__law_charge
  fn_mk (k := 1) F sc__law_charge fun cdv A outer s H H0 F0 E hr tk =>
  (sb_one (ss_ret (c_sum rfl rfl T.b_sum (ea_cons (ev_comp [("one", 4)] (fun v hv => by exact True.intro) rfl S.nd (it_c (it_new rfl (ev_call D__law_lines rfl (hr.mono (show 1 ≤ 1 by decide)) tk (ea_cons (eb_var 0) (ea_cons (eb_var 1) (ea_cons (eb_var 2) (ea_cons (eb_var 3) ea_nil))))))) (blkOk_by (N := N__law_charge) (sc := defScope s__law_charge) (by decide +kernel)) (fun _ _ _ _ _ => (gt_name 4 (by exact True.intro) S.nd)) (fun _ _ _ _ _ => ec_nil) (fun _ _ _ _ _ => (ev_mul (eb_ix rfl (eb_var 4) ev_int.b) (eb_ix rfl (eb_var 4) ev_int.b)))).b ea_nil))))
abbrev N__law_regret : List Str := ["plans", "k", "days", "use", "charges", "one"]
theorem sc__law_regret : FnScope ["plans", "k", "days", "use", "charges", "one"] ["plans", "k", "days", "use"] (defScope s__law_regret) := ⟨rfl, rfl, rfl, by decide +kernel, rfl, by decide +kernel, by decide +kernel⟩
theorem ok__law_regret (T : Txt K mg) (D__law_charge : FnE P w K mg base "_law_charge" 4 2 m__law_charge) {f : Addr} {fd : FuncData} (F : Fun K "_law_regret" "_law_regret" s__law_regret f fd) : FnOk P w K mg base (L2.CX P w) 3 f fd ["plans", "k", "days", "use"] (spF ⟨K, mg⟩ 4 m__law_regret) :=
  have S := sc__law_regret
  fn_mk (k := 2) F sc__law_regret fun cdv A outer s H H0 F0 E hr tk =>
  (sb_cons (ss_setComp 4 [("one", 5)] (fun v hv => by exact True.intro) (by exact True.intro) rfl S.nd (it_any rfl (eb_var 0)) (blkOk_by (N := N__law_regret) (sc := defScope s__law_regret) (by decide +kernel)) (fun _ _ _ _ _ => (gt_name 5 (by exact True.intro) S.nd)) (fun _ _ _ _ _ => ec_nil) (fun _ _ _ _ _ => (ev_call D__law_charge rfl (hr.mono (show 2 ≤ 2 by decide)) takes0 (ea_cons (eb_ix rfl (eb_var 5) ev_int.b) (ea_cons (eb_ix rfl (eb_var 5) ev_int.b) (ea_cons (eb_var 2) (ea_cons (eb_var 3) ea_nil)))))) (sw_true rfl rfl rfl (by decide +kernel)))
  (sb_one (ss_ret (ev_sub (eb_ix rfl (eb_var 4) (eb_var 1)) (c_min1 rfl rfl T.b_min (ea_cons (eb_var 4) ea_nil)).b))))
abbrev N__law_worst : List Str := ["plans", "k", "days", "uses", "best", "use", "regret"]
theorem sc__law_worst : FnScope ["plans", "k", "days", "uses", "best", "use", "regret"] ["plans", "k", "days", "uses"] (defScope s__law_worst) := ⟨rfl, rfl, rfl, by decide +kernel, rfl, by decide +kernel, by decide +kernel⟩
theorem ok__law_worst (T : Txt K mg) (D__law_regret : FnE P w K mg base "_law_regret" 4 3 m__law_regret) {f : Addr} {fd : FuncData} (F : Fun K "_law_worst" "_law_worst" s__law_worst f fd) : FnOk P w K mg base (L2.CX P w) 4 f fd ["plans", "k", "days", "uses"] (spF ⟨K, mg⟩ 4 m__law_worst) :=
  have S := sc__law_worst
  fn_mk (k := 3) F sc__law_worst fun cdv A outer s H H0 F0 E hr tk =>
  (sb_cons (ss_set 4 (by exact True.intro) S.nd (ev_tup (eav_cons (ev_call D__law_regret rfl (hr.mono (show 3 ≤ 3 by decide)) tk (ea_cons (eb_var 0) (ea_cons (eb_var 1) (ea_cons (eb_var 2) (ea_cons (eb_ix rfl (eb_var 3) ev_int.b) ea_nil))))) (eav_cons (eb_ix rfl (eb_var 3) ev_int.b).v eav_nil))))
  (sb_cons (ss_for (passes_of rfl) rfl (it_seq rfl (eb_var 3)) (fun _ _ => (gt_name 5 (by exact True.intro) S.nd)) (fun _ _ => (sb_cons (ss_set 6 (by exact True.intro) S.nd (ev_call D__law_regret rfl (hr.mono (show 3 ≤ 3 by decide)) tk (ea_cons (eb_var 0) (ea_cons (eb_var 1) (ea_cons (eb_var 2) (ea_cons (eb_var 5) ea_nil))))))
    (sb_one (ss_if (et_cmp op_gt op2_gt (eb_var 6) (eb_ix rfl (eb_var 4) ev_int.b) (nomark _)) (sb_one (ss_set 4 (by exact True.intro) S.nd (ev_tup (eav_cons (eb_var 6).v (eav_cons (eb_var 5).v eav_nil))))) sb_nil)))))
  (sb_one (ss_retV 4))))
abbrev N__law_is_whole : List Str := ["value"]
theorem sc__law_is_whole : FnScope ["value"] ["value"] (defScope s__law_is_whole) := ⟨rfl, rfl, rfl, by decide +kernel, rfl, by decide +kernel, by decide +kernel⟩
theorem ok__law_is_whole (T : Txt K mg)  {f : Addr} {fd : FuncData} (F : Fun K "_law_is_whole" "_law_is_whole" s__law_is_whole f fd) : FnOk P w K mg base (L2.CX P w) 1 f fd ["value"] (spF ⟨K, mg⟩ 1 m__law_is_whole) :=
  have S := sc__law_is_whole
  fn_mk (k := 0) F sc__law_is_whole fun cdv A outer s H H0 F0 E hr tk =>
  (sb_one (ss_ret (ev_and (ev_isi rfl T.b_isinstance T.b_int PyProof.Rows.boot_int (eb_var 0) (by decide)) (ev_one (ev_not rfl (ev_isi rfl T.b_isinstance T.b_bool PyProof.Rows.boot_bool (eb_var 0) (by decide)).b)))))
abbrev N__law_pair : List Str := ["value"]
theorem sc__law_pair : FnScope ["value"] ["value"] (defScope s__law_pair) := ⟨rfl, rfl, rfl, by decide +kernel, rfl, by decide +kernel, by decide +kernel⟩
theorem ok__law_pair (T : Txt K mg) (D__law_is_whole : FnE P w K mg base "_law_is_whole" 1 1 m__law_is_whole) {f : Addr} {fd : FuncData} (F : Fun K "_law_pair" "_law_pair" s__law_pair f fd) : FnOk P w K mg base (L2.CX P w) 2 f fd ["value"] (spF ⟨K, mg⟩ 1 m__law_pair) :=
  have S := sc__law_pair
  fn_mk (k := 1) F sc__law_pair fun cdv A outer s H H0 F0 E hr tk =>
  (sb_cons (ss_if (et_w (ew_or (et_not (et_val rfl (ev_isi rfl T.b_isinstance T.b_tuple PyProof.Rows.boot_tuple (eb_var 0) (by decide)).b)) (ew_or1 (et_cmp (opr_ne hr.units) op2_ne (c_len rfl T.b_len (ea_cons (eb_var 0) ea_nil)).b ev_int.b (nomark _))))) (sb_one (ss_ret ev_bl)) sb_nil)
  (sb_one (ss_ret (ev_and (ev_call D__law_is_whole rfl (hr.mono (show 1 ≤ 1 by decide)) tk (ea_cons (eb_ix rfl (eb_var 0) ev_int.b) ea_nil)) (ev_one (ev_call D__law_is_whole rfl (hr.mono (show 1 ≤ 1 by decide)) tk (ea_cons (eb_ix rfl (eb_var 0) ev_int.b) ea_nil)))))))
abbrev N__law_right : List Str := ["tariffs", "plans", "days", "least", "greatest", "uses", "worst", "k", "kept", "told", "use", "regret", "low", "one", "first"]
theorem sc__law_right : FnScope ["tariffs", "plans", "days", "least", "greatest", "uses", "worst", "k", "kept", "told", "use", "regret", "low", "one", "first"] ["tariffs", "plans", "days", "least", "greatest"] (defScope s__law_right) := ⟨rfl, rfl, rfl, by decide +kernel, rfl, by decide +kernel, by decide +kernel⟩
theorem ok__law_right (T : Txt K mg) (D__law_uses : FnE P w K mg base "_law_uses" 4 1 m__law_uses) (D__law_worst : FnE P w K mg base "_law_worst" 4 4 m__law_worst) (D_worst_regret : FnE P w K mg base "worst_regret" 5 5 m_worst_regret) (D__law_pair : FnE P w K mg base "_law_pair" 1 2 m__law_pair) (D_regret_of : FnE P w K mg base "regret_of" 4 5 m_regret_of) (D__law_is_whole : FnE P w K mg base "_law_is_whole" 1 1 m__law_is_whole) (D__law_regret : FnE P w K mg base "_law_regret" 4 3 m__law_regret) (D_least_regret : FnE P w K mg base "least_regret" 4 5 m_least_regret) {f : Addr} {fd : FuncData} (F : Fun K "_law_right" "_law_right" s__law_right f fd) : FnOk P w K mg base (L2.CX P w) 6 f fd ["tariffs", "plans", "days", "least", "greatest"] (spF ⟨K, mg⟩ 5 m__law_right) :=
  have S := sc__law_right
  fn_mk (k := 5) F sc__law_right fun cdv A outer s H H0 F0 E hr tk =>
  (sb_cons (ss_set 5 (by exact True.intro) S.nd (ev_call D__law_uses rfl (hr.mono (show 1 ≤ 5 by decide)) tk (ea_cons (eb_var 1) (ea_cons (eb_var 2) (ea_cons (eb_var 3) (ea_cons (eb_var 4) ea_nil))))))
  (sb_cons (ss_set 6 (by exact True.intro) S.nd (ev_comp [("k", 7)] (fun v hv => by exact True.intro) rfl S.nd (it_c (it_rng1 T.b_range (ea_cons (c_len rfl T.b_len (ea_cons (eb_var 1) ea_nil)).b ea_nil))) (blkOk_by (N := N__law_right) (sc := defScope s__law_right) (by decide +kernel)) (fun _ _ _ _ _ => (gt_name 7 (by exact True.intro) S.nd)) (fun _ _ _ _ _ => ec_nil) (fun _ _ _ _ _ => (ev_call D__law_worst rfl (hr.mono (show 4 ≤ 5 by decide)) takes0 (ea_cons (eb_var 1) (ea_cons (eb_var 7) (ea_cons (eb_var 2) (ea_cons (eb_var 5) ea_nil))))))))
  (sb_keep 0 8 rfl T.b_list (by exact True.intro) S.nd (fun H1 F1 a0 a1 vs q1 q2 q3 =>
  (sb_cons (ss_for (passes_of rfl) rfl (it_rng1 T.b_range (ea_cons (c_len rfl T.b_len (ea_cons (eb_var 1) ea_nil)).b ea_nil)) (fun _ _ => (gt_name 7 (by exact ⟨Nat.ne_of_beq_eq_false rfl, Nat.ne_of_beq_eq_false rfl, True.intro⟩) S.nd)) (fun _ _ => (sb_cons (ss_set 9 (by exact ⟨Nat.ne_of_beq_eq_false rfl, Nat.ne_of_beq_eq_false rfl, True.intro⟩) S.nd (ev_call D_worst_regret rfl (hr.mono (show 5 ≤ 5 by decide)) tk (ea_cons (eb_var 0) (ea_cons (eb_var 7) (ea_cons (eb_var 2) (ea_cons (eb_var 3) (ea_cons (eb_var 4) ea_nil)))))))
    (sb_cons (ss_if (et_w (ew_or (et_not (et_val rfl (ev_call D__law_pair rfl (hr.mono (show 2 ≤ 5 by decide)) tk (ea_cons (eb_var 9) ea_nil)).b)) (ew_or1 (et_cmp (opr_ne hr.units) op2_ne (eb_var 9) (eb_ix rfl (eb_var 6) (eb_var 7)) (nomark _))))) (sb_one (ss_ret ev_bl)) sb_nil)
    (sb_one (ss_for (passes_of rfl) rfl (it_new rfl (ev_lst (eav_cons (eb_var 3).v (eav_cons (eb_var 4).v (eav_cons (eb_ix rfl (eb_var 5) (ev_fdiv (c_len rfl T.b_len (ea_cons (eb_var 5) ea_nil)).b ev_int.b).b).v eav_nil))))) (fun _ _ => (gt_name 10 (by exact ⟨Nat.ne_of_beq_eq_false rfl, Nat.ne_of_beq_eq_false rfl, True.intro⟩) S.nd)) (fun _ _ => (sb_cons (ss_set 11 (by exact ⟨Nat.ne_of_beq_eq_false rfl, Nat.ne_of_beq_eq_false rfl, True.intro⟩) S.nd (ev_call D_regret_of rfl (hr.mono (show 5 ≤ 5 by decide)) tk (ea_cons (eb_var 0) (ea_cons (eb_var 7) (ea_cons (eb_var 2) (ea_cons (eb_var 10) ea_nil))))))
      (sb_one (ss_if (et_w (ew_or (et_not (et_val rfl (ev_call D__law_is_whole rfl (hr.mono (show 1 ≤ 5 by decide)) tk (ea_cons (eb_var 11) ea_nil)).b)) (ew_or1 (et_cmp (opr_ne hr.units) op2_ne (eb_var 11) (ev_call D__law_regret rfl (hr.mono (show 3 ≤ 5 by decide)) tk (ea_cons (eb_var 1) (ea_cons (eb_var 7) (ea_cons (eb_var 2) (ea_cons (eb_var 10) ea_nil))))).b (nomark _))))) (sb_one (ss_ret ev_bl)) sb_nil))))))))))
  (sb_cons (ss_set 9 (by exact ⟨Nat.ne_of_beq_eq_false rfl, Nat.ne_of_beq_eq_false rfl, True.intro⟩) S.nd (ev_call D_least_regret rfl (hr.mono (show 5 ≤ 5 by decide)) tk (ea_cons (eb_var 0) (ea_cons (eb_var 2) (ea_cons (eb_var 3) (ea_cons (eb_var 4) ea_nil))))))
  (sb_cons (ss_set 12 (by exact ⟨Nat.ne_of_beq_eq_false rfl, Nat.ne_of_beq_eq_false rfl, True.intro⟩) S.nd (c_min1 rfl rfl T.b_min (ea_cons (ev_comp [("one", 13)] (fun v hv => by have e := List.mem_singleton.mp hv; subst e; exact ⟨Nat.ne_of_beq_eq_false rfl, Nat.ne_of_beq_eq_false rfl, True.intro⟩) rfl S.nd (it_any rfl (eb_var 6)) (blkOk_by (N := N__law_right) (sc := defScope s__law_right) (by decide +kernel)) (fun _ _ _ _ _ => (gt_name 13 (by exact ⟨Nat.ne_of_beq_eq_false rfl, Nat.ne_of_beq_eq_false rfl, True.intro⟩) S.nd)) (fun _ _ _ _ _ => ec_nil) (fun _ _ _ _ _ => (eb_ix rfl (eb_var 13) ev_int.b).v)).b ea_nil)))
  (sb_cons (ss_set 14 (by exact ⟨Nat.ne_of_beq_eq_false rfl, Nat.ne_of_beq_eq_false rfl, True.intro⟩) S.nd (eb_ix rfl (ev_comp [("k", 7)] (fun v hv => by have e := List.mem_singleton.mp hv; subst e; exact ⟨Nat.ne_of_beq_eq_false rfl, Nat.ne_of_beq_eq_false rfl, True.intro⟩) rfl S.nd (it_c (it_rng1 T.b_range (ea_cons (c_len rfl T.b_len (ea_cons (eb_var 1) ea_nil)).b ea_nil))) (blkOk_by (N := N__law_right) (sc := defScope s__law_right) (by decide +kernel)) (fun _ _ _ _ _ => (gt_name 7 (by exact ⟨Nat.ne_of_beq_eq_false rfl, Nat.ne_of_beq_eq_false rfl, True.intro⟩) S.nd)) (fun _ _ _ _ _ => (ec_one (et_cmp (opr_eq hr.units) op2_eq (eb_ix rfl (eb_ix rfl (eb_var 6) (eb_var 7)) ev_int.b) (eb_var 12) (nomark _)))) (fun _ _ _ _ _ => (eb_var 7).v)).b ev_int.b).v)
  (sb_one (ss_ret (ev_and (ev_call D__law_pair rfl (hr.mono (show 2 ≤ 5 by decide)) tk (ea_cons (eb_var 9) ea_nil)) (ev_and (ev_cmp (opr_eq hr.units) op2_eq (eb_var 9) (eb_tup (ea_cons (eb_var 14) (ea_cons (eb_var 12) ea_nil))) (nomark _)) (ev_one (ev_keep hr q1 q2 q3))))))))))))))
abbrev N_law : List Str := ["script", "row", "wide", "plans", "tariffs", "one", "days", "least", "greatest", "steps", "kind"]
theorem sc_law : FnScope ["script", "row", "wide", "plans", "tariffs", "one", "days", "least", "greatest", "steps", "kind"] ["script"] (defScope s_law) := ⟨rfl, rfl, rfl, by decide +kernel, rfl, by decide +kernel, by decide +kernel⟩
theorem ok_law (T : Txt K mg) (D__law_cell : FnE P w K mg base "_law_cell" 2 1 m__law_cell) (D__law_row : FnE P w K mg base "_law_row" 2 1 m__law_row) (D__law_at : FnE P w K mg base "_law_at" 3 1 m__law_at) (D__law_plans : FnE P w K mg base "_law_plans" 4 3 m__law_plans) (D_Tariff : MkH P w K mg base "Tariff" 2 4 m_Tariff___init__) (D__law_right : FnE P w K mg base "_law_right" 5 6 m__law_right) (D__law_refused : FnE P w K mg base "_law_refused" 2 7 m__law_refused) {f : Addr} {fd : FuncData} (F : Fun K "law" "law" s_law f fd) : FnOk P w K mg base (L2.CX P w) 8 f fd ["script"] (spF ⟨K, mg⟩ 1 m_law) :=
  have S := sc_law
  fn_mk (k := 7) F sc_law fun cdv A outer s H H0 F0 E hr tk =>
  (sb_cons (ss_set 1 (by exact True.intro) S.nd (ev_call D__law_row rfl (hr.mono (show 1 ≤ 7 by decide)) tk (ea_cons (ev_call D__law_cell rfl (hr.mono (show 1 ≤ 7 by decide)) tk (ea_cons (eb_var 0) (ea_cons ev_int.b ea_nil))).b (ea_cons ev_int.b ea_nil))))
  (sb_cons (ss_set 2 (by exact True.intro) S.nd (ev_call D__law_at rfl (hr.mono (show 1 ≤ 7 by decide)) tk (ea_cons (eb_var 1) (ea_cons ev_int.b (ea_cons ev_int.b ea_nil)))))
  (sb_cons (ss_set 3 (by exact True.intro) S.nd (ev_call D__law_plans rfl (hr.mono (show 3 ≤ 7 by decide)) tk (ea_cons (ev_cut rfl (eb_var 1) (eo_some ev_int.b) eo_none).b (ea_cons (ev_add rfl (ev_call D__law_at rfl (hr.mono (show 1 ≤ 7 by decide)) tk (ea_cons (eb_var 1) (ea_cons ev_int.b (ea_cons ev_int.b ea_nil)))).b ev_int.b).b (ea_cons ev_int.b (ea_cons (eb_var 2) ea_nil))))))
  (sb_cons (ss_if (et_cmp (opr_eq hr.units) op2_eq (ev_call D__law_at rfl (hr.mono (show 1 ≤ 7 by decide)) tk (ea_cons (eb_var 1) (ea_cons ev_int.b (ea_cons ev_int.b ea_nil)))).b ev_int.b (nomark _)) (sb_one (ss_set 3 (by exact True.intro) S.nd (ev_call D__law_plans rfl (hr.mono (show 3 ≤ 7 by decide)) tk (ea_cons (ev_cut rfl (eb_var 1) (eo_some ev_int.b) eo_none).b (ea_cons ev_int.b (ea_cons ev_int.b (ea_cons (eb_var 2) ea_nil))))))) sb_nil)
  (sb_cons (ss_setComp 4 [("one", 5)] (fun v hv => by exact True.intro) (by exact True.intro) rfl S.nd (it_any rfl (eb_var 3)) (blkOk_by (N := N_law) (sc := defScope s_law) (by decide +kernel)) (fun _ _ _ _ _ => (gt_name 5 (by exact True.intro) S.nd)) (fun _ _ _ _ _ => ec_nil) (fun _ _ _ _ _ => (c_make D_Tariff rfl (hr.mono (by decide)) takes0 (ea_cons (eb_ix rfl (eb_var 5) ev_int.b) (ea_cons (eb_ix rfl (eb_var 5) ev_int.b) ea_nil)))) (sw_true rfl rfl rfl (by decide +kernel)))
  (sb_cons (ss_set 6 (by exact True.intro) S.nd (eb_ix rfl (eb_lst (ea_cons ev_int.b (ea_cons ev_int.b (ea_cons ev_int.b (ea_cons (ev_add rfl (ev_call D__law_at rfl (hr.mono (show 1 ≤ 7 by decide)) tk (ea_cons (eb_var 1) (ea_cons ev_int.b (ea_cons ev_int.b ea_nil)))).b ev_int.b).b ea_nil))))) (ev_call D__law_at rfl (hr.mono (show 1 ≤ 7 by decide)) tk (ea_cons (eb_var 1) (ea_cons ev_int.b (ea_cons ev_int.b ea_nil)))).b).v)
  (sb_cons (ss_set 7 (by exact True.intro) S.nd (ev_call D__law_at rfl (hr.mono (show 1 ≤ 7 by decide)) tk (ea_cons (eb_var 1) (ea_cons ev_int.b (ea_cons ev_int.b ea_nil)))))
  (sb_cons (ss_set 8 (by exact True.intro) S.nd (ev_add rfl (eb_var 7) (ev_call D__law_at rfl (hr.mono (show 1 ≤ 7 by decide)) tk (ea_cons (eb_var 1) (ea_cons ev_int.b (ea_cons ev_int.b ea_nil)))).b))
  (sb_cons (ss_set 9 (by exact True.intro) S.nd (eb_ix rfl (eb_ix rfl (eb_var 3) (ev_call D__law_at rfl (hr.mono (show 1 ≤ 7 by decide)) tk (ea_cons (eb_var 1) (ea_cons ev_int.b (ea_cons (c_len rfl T.b_len (ea_cons (eb_var 3) ea_nil)).b ea_nil)))).b) ev_int.b).v)
  (sb_cons (ss_set 10 (by exact True.intro) S.nd (ev_call D__law_at rfl (hr.mono (show 1 ≤ 7 by decide)) tk (ea_cons (eb_var 1) (ea_cons ev_int.b (ea_cons ev_int.b ea_nil)))))
  (sb_cons (ss_if (et_cmp (opr_eq hr.units) op2_eq (eb_var 10) ev_int.b (nomark _)) (sb_cons (ss_set 7 (by exact True.intro) S.nd (c_max2 rfl T.b_max (ea_cons ev_int.b (ea_cons (ev_sub (ev_add rfl (ev_mul (eb_ix rfl (eb_ix rfl (eb_var 9) (ev_neg ev_int.b).b) ev_int.b) (eb_var 6)).b (ev_call D__law_at rfl (hr.mono (show 1 ≤ 7 by decide)) tk (ea_cons (eb_var 1) (ea_cons ev_int.b (ea_cons ev_int.b ea_nil)))).b).b ev_int.b).b ea_nil))))
    (sb_one (ss_set 8 (by exact True.intro) S.nd (ev_add rfl (eb_var 7) (ev_mul (ev_call D__law_at rfl (hr.mono (show 1 ≤ 7 by decide)) tk (ea_cons (eb_var 1) (ea_cons ev_int.b (ea_cons ev_int.b ea_nil)))).b ev_int.b).b)))) sb_nil)
  (sb_cons (ss_if (et_cmp (opr_eq hr.units) op2_eq (eb_var 10) ev_int.b (nomark _)) (sb_cons (ss_set 7 (by exact True.intro) S.nd (c_max2 rfl T.b_max (ea_cons ev_int.b (ea_cons (ev_sub (ev_mul (eb_ix rfl (eb_ix rfl (eb_var 9) (ev_call D__law_at rfl (hr.mono (show 1 ≤ 7 by decide)) tk (ea_cons (eb_var 1) (ea_cons ev_int.b (ea_cons (c_len rfl T.b_len (ea_cons (eb_var 9) ea_nil)).b ea_nil)))).b) ev_int.b) (eb_var 6)).b (ev_call D__law_at rfl (hr.mono (show 1 ≤ 7 by decide)) tk (ea_cons (eb_var 1) (ea_cons ev_int.b (ea_cons ev_int.b ea_nil)))).b).b ea_nil))))
    (sb_one (ss_set 8 (by exact True.intro) S.nd (ev_add rfl (eb_var 7) (ev_call D__law_at rfl (hr.mono (show 1 ≤ 7 by decide)) tk (ea_cons (eb_var 1) (ea_cons ev_int.b (ea_cons ev_int.b ea_nil)))).b)))) sb_nil)
  (sb_cons (ss_if (et_w (ew_or (et_not (et_val rfl (ev_call D__law_right rfl (hr.mono (show 6 ≤ 7 by decide)) tk (ea_cons (eb_var 4) (ea_cons (eb_var 3) (ea_cons (eb_var 6) (ea_cons (eb_var 7) (ea_cons (eb_var 8) ea_nil)))))).b)) (ew_or1 (et_not (et_val rfl (ev_call D__law_right rfl (hr.mono (show 6 ≤ 7 by decide)) tk (ea_cons (eb_var 4) (ea_cons (eb_var 3) (ea_cons ev_int.b (ea_cons (eb_var 7) (ea_cons (eb_var 7) ea_nil)))))).b))))) (sb_one (ss_ret ev_bl)) sb_nil)
  (sb_cons (ss_if (et_w (ew_or (et_not (et_val rfl (ev_call D__law_right rfl (hr.mono (show 6 ≤ 7 by decide)) tk (ea_cons (ev_cut rfl (eb_var 4) eo_none (eo_some ev_int.b)).b (ea_cons (ev_cut rfl (eb_var 3) eo_none (eo_some ev_int.b)).b (ea_cons (eb_var 6) (ea_cons ev_int.b (ea_cons ev_int.b ea_nil)))))).b)) (ew_or1 (et_not (et_val rfl (ev_call D__law_right rfl (hr.mono (show 6 ≤ 7 by decide)) tk (ea_cons (eb_var 4) (ea_cons (eb_var 3) (ea_cons (eb_var 6) (ea_cons ev_int.b (ea_cons (eb_var 8) ea_nil)))))).b))))) (sb_one (ss_ret ev_bl)) sb_nil)
  (sb_frz 4 (sb_one (ss_ret (ev_call D__law_refused rfl (hr.mono (show 7 ≤ 7 by decide)) tk (ea_cons (ev_cut rfl (eb_var 1) (eo_some ev_int.b) (eo_some ev_int.b)).b (ea_cons (eb_var 4) ea_nil))))))))))))))))))))
theorem all_ok (T : Txt K mg) (d__law_row : DefH K mg "_law_row" s__law_row) (d__law_at : DefH K mg "_law_at" s__law_at) (d__law_steps : DefH K mg "_law_steps" s__law_steps) (d__law_plans : DefH K mg "_law_plans" s__law_plans) (d_TooMany : XnT K mg "TooMany" "TooMany.__init__" s_TooMany___init__ ["limit"]) (d_check_tariffs : DefH K mg "check_tariffs" s_check_tariffs) (d_check_choice : DefH K mg "check_choice" s_check_choice) (d_check_uses : DefH K mg "check_uses" s_check_uses) (d_check_use : DefH K mg "check_use" s_check_use) (d_Tariff_charge : MthH K mg "Tariff" "charge" "Tariff.charge" s_Tariff_charge) (d_plain_regret : DefH K mg "plain_regret" s_plain_regret) (d_regret_of : DefH K mg "regret_of" s_regret_of) (d_check_frame : DefH K mg "check_frame" s_check_frame) (d_corners_of : DefH K mg "corners_of" s_corners_of) (d_turning_uses : DefH K mg "turning_uses" s_turning_uses) (d_worst_of : DefH K mg "worst_of" s_worst_of) (d_worst_regret : DefH K mg "worst_regret" s_worst_regret) (d_least_regret : DefH K mg "least_regret" s_least_regret) (d__law_called : DefH K mg "_law_called" s__law_called) (d__law_refused : DefH K mg "_law_refused" s__law_refused) (d__law_cell : DefH K mg "_law_cell" s__law_cell) (d_check_steps : DefH K mg "check_steps" s_check_steps) (d_Tariff___init__ : IniH K mg "Tariff" "Tariff.__init__" s_Tariff___init__) (d__law_uses : DefH K mg "_law_uses" s__law_uses) (d__law_lines : DefH K mg "_law_lines" s__law_lines) (d__law_charge : DefH K mg "_law_charge" s__law_charge) (d__law_regret : DefH K mg "_law_regret" s__law_regret) (d__law_worst : DefH K mg "_law_worst" s__law_worst) (d__law_is_whole : DefH K mg "_law_is_whole" s__law_is_whole) (d__law_pair : DefH K mg "_law_pair" s__law_pair) (d__law_right : DefH K mg "_law_right" s__law_right) (d_law : DefH K mg "law" s_law) {fa : Addr} (hfa : mg "law" = some (.ref fa)) (hm : ∀ ns : List Int, ns.length ≤ 63 → m_law [.scr ns] = .ok (.bl true)) :
    ∃ fd : FuncData, (∀ (s : Shared) (u : Value), BindsTo s fd ⟨[u], []⟩ [("script", u)]) ∧ ∀ base : Heap, K.In base → base.Ns mainGlobals mg → FnOk P w K mg base (L2.CX P w) 8 fa fd ["script"] (spLaw ⟨K, mg⟩) := by
  refine law_of d_law hfa (fun _ _ _ _ _ _ _ _ => .of_eq rfl) hm fun base hb1 hb2 {f fd} F => ?_
  have D__law_row : FnE P w K mg base "_law_row" 2 1 m__law_row := FnE.of d__law_row (fun _ _ _ _ _ _ us hl => match us, hl with | [_, _], _ => rfl) (fun F => ok__law_row T  F)
  have D__law_at : FnE P w K mg base "_law_at" 3 1 m__law_at := FnE.of d__law_at (fun _ _ _ _ _ _ us hl => match us, hl with | [_, _, _], _ => rfl) (fun F => ok__law_at T  F)
  have D__law_steps : FnE P w K mg base "_law_steps" 5 2 m__law_steps := FnE.of d__law_steps (fun _ _ _ _ _ _ us hl => match us, hl with | [_, _, _, _, _], _ => rfl) (fun F => ok__law_steps T D__law_at F)
  have D__law_plans : FnE P w K mg base "_law_plans" 4 3 m__law_plans := FnE.of d__law_plans (fun _ _ _ _ _ _ us hl => match us, hl with | [_, _, _, _], _ => rfl) (fun F => ok__law_plans T D__law_at D__law_steps F)
  have D_TooMany : ExNH P w K mg base "TooMany" ["limit"] := ExNH.of d_TooMany (fun _ _ _ _ _ _ us hl => match us, hl with | [_, _], _ => rfl) (fun F => ok_TooMany___init__ F)
  have D_check_tariffs : FnE P w K mg base "check_tariffs" 1 3 m_check_tariffs := FnE.of d_check_tariffs (fun _ _ _ _ _ _ us hl => match us, hl with | [_], _ => rfl) (fun F => ok_check_tariffs T D_TooMany F)
  have D_check_choice : FnE P w K mg base "check_choice" 2 4 m_check_choice := FnE.of d_check_choice (fun _ _ _ _ _ _ us hl => match us, hl with | [_, _], _ => rfl) (fun F => ok_check_choice T D_check_tariffs F)
  have D_check_uses : FnE P w K mg base "check_uses" 3 1 m_check_uses := FnE.of d_check_uses (fun _ _ _ _ _ _ us hl => match us, hl with | [_, _, _], _ => rfl) (fun F => ok_check_uses T  F)
  have D_check_use : FnE P w K mg base "check_use" 2 1 m_check_use := FnE.of d_check_use (fun _ _ _ _ _ _ us hl => match us, hl with | [_, _], _ => rfl) (fun F => ok_check_use T  F)
  have D_Tariff_charge : MeH P w K mg base "Tariff" "charge" 3 2 m_Tariff_charge := MeH.of T.cl_Tariff d_Tariff_charge (fun _ _ _ _ _ _ us hl => match us, hl with | [_, _, _], _ => rfl) (fun F => ok_Tariff_charge T D_check_use F)
  have D_plain_regret : FnE P w K mg base "plain_regret" 4 3 m_plain_regret := FnE.of d_plain_regret (fun _ _ _ _ _ _ us hl => match us, hl with | [_, _, _, _], _ => rfl) (fun F => ok_plain_regret T D_Tariff_charge F)
  have D_regret_of : FnE P w K mg base "regret_of" 4 5 m_regret_of := FnE.of d_regret_of (fun _ _ _ _ _ _ us hl => match us, hl with | [_, _, _, _], _ => rfl) (fun F => ok_regret_of T D_check_choice D_check_uses D_plain_regret F)
  have D_check_frame : FnE P w K mg base "check_frame" 2 1 m_check_frame := FnE.of d_check_frame (fun _ _ _ _ _ _ us hl => match us, hl with | [_, _], _ => rfl) (fun F => ok_check_frame T  F)
  have D_corners_of : FnE P w K mg base "corners_of" 4 2 m_corners_of := FnE.of d_corners_of (fun _ _ _ _ _ _ us hl => match us, hl with | [_, _, _, _], _ => rfl) (fun F => ok_corners_of T D_check_frame F)
  have D_turning_uses : FnE P w K mg base "turning_uses" 5 3 m_turning_uses := FnE.of d_turning_uses (fun _ _ _ _ _ _ us hl => match us, hl with | [_, _, _, _, _], _ => rfl) (fun F => ok_turning_uses T D_corners_of F)
  have D_worst_of : FnE P w K mg base "worst_of" 5 4 m_worst_of := FnE.of d_worst_of (fun _ _ _ _ _ _ us hl => match us, hl with | [_, _, _, _, _], _ => rfl) (fun F => ok_worst_of T D_plain_regret D_turning_uses F)
  have D_worst_regret : FnE P w K mg base "worst_regret" 5 5 m_worst_regret := FnE.of d_worst_regret (fun _ _ _ _ _ _ us hl => match us, hl with | [_, _, _, _, _], _ => rfl) (fun F => ok_worst_regret T D_check_choice D_check_uses D_worst_of F)
  have D_least_regret : FnE P w K mg base "least_regret" 4 5 m_least_regret := FnE.of d_least_regret (fun _ _ _ _ _ _ us hl => match us, hl with | [_, _, _, _], _ => rfl) (fun F => ok_least_regret T D_check_tariffs D_check_uses D_worst_of F)
  have D__law_called : FnE P w K mg base "_law_called" 6 6 m__law_called := FnE.of d__law_called (fun _ _ _ _ _ _ us hl => match us, hl with | [_, _, _, _, _, _], _ => rfl) (fun F => ok__law_called T D_regret_of D_worst_regret D_least_regret F)
  have D__law_refused : FnE P w K mg base "_law_refused" 2 7 m__law_refused := FnE.of d__law_refused (fun _ _ _ _ _ _ us hl => match us, hl with | [_, _], _ => rfl) (fun F => ok__law_refused T D__law_at D__law_called F)
  have D__law_cell : FnE P w K mg base "_law_cell" 2 1 m__law_cell := FnE.of d__law_cell (fun _ _ _ _ _ _ us hl => match us, hl with | [_, _], _ => rfl) (fun F => ok__law_cell T  F)
  have D_check_steps : FnE P w K mg base "check_steps" 1 3 m_check_steps := FnE.of d_check_steps (fun _ _ _ _ _ _ us hl => match us, hl with | [_], _ => rfl) (fun F => ok_check_steps T D_TooMany F)
  have D_Tariff : MkH P w K mg base "Tariff" 2 4 m_Tariff___init__ := MkH.of T.cl_Tariff d_Tariff___init__ (fun _ _ _ _ _ _ us hl => match us, hl with | [_, _, _], _ => rfl) (fun F => ok_Tariff___init__ T D_check_steps F)
  have D__law_uses : FnE P w K mg base "_law_uses" 4 1 m__law_uses := FnE.of d__law_uses (fun _ _ _ _ _ _ us hl => match us, hl with | [_, _, _, _], _ => rfl) (fun F => ok__law_uses T  F)
  have D__law_lines : FnE P w K mg base "_law_lines" 4 1 m__law_lines := FnE.of d__law_lines (fun _ _ _ _ _ _ us hl => match us, hl with | [_, _, _, _], _ => rfl) (fun F => ok__law_lines T  F)
  have D__law_charge : FnE P w K mg base "_law_charge" 4 2 m__law_charge := FnE.of d__law_charge (fun _ _ _ _ _ _ us hl => match us, hl with | [_, _, _, _], _ => rfl) (fun F => ok__law_charge T D__law_lines F)
  have D__law_regret : FnE P w K mg base "_law_regret" 4 3 m__law_regret := FnE.of d__law_regret (fun _ _ _ _ _ _ us hl => match us, hl with | [_, _, _, _], _ => rfl) (fun F => ok__law_regret T D__law_charge F)
  have D__law_worst : FnE P w K mg base "_law_worst" 4 4 m__law_worst := FnE.of d__law_worst (fun _ _ _ _ _ _ us hl => match us, hl with | [_, _, _, _], _ => rfl) (fun F => ok__law_worst T D__law_regret F)
  have D__law_is_whole : FnE P w K mg base "_law_is_whole" 1 1 m__law_is_whole := FnE.of d__law_is_whole (fun _ _ _ _ _ _ us hl => match us, hl with | [_], _ => rfl) (fun F => ok__law_is_whole T  F)
  have D__law_pair : FnE P w K mg base "_law_pair" 1 2 m__law_pair := FnE.of d__law_pair (fun _ _ _ _ _ _ us hl => match us, hl with | [_], _ => rfl) (fun F => ok__law_pair T D__law_is_whole F)
  have D__law_right : FnE P w K mg base "_law_right" 5 6 m__law_right := FnE.of d__law_right (fun _ _ _ _ _ _ us hl => match us, hl with | [_, _, _, _, _], _ => rfl) (fun F => ok__law_right T D__law_uses D__law_worst D_worst_regret D__law_pair D_regret_of D__law_is_whole D__law_regret D_least_regret F)
  exact ok_law T D__law_cell D__law_row D__law_at D__law_plans D_Tariff D__law_right D__law_refused F
end
end K47
open PySem PySem.W PyProof.Rows
set_option maxHeartbeats 0 in
theorem PySem.Challenge.cw_dialhouse_k47_whole_regrets_holds : PySem.Challenge.rw_dialhouse_k47_whole_regrets.Holds := by
  w_on; o_law; k_head; (case hw => w_witness2)
  k_fill
  refine DH.walk_law (k := 8) (l := PySem.Challenge.rw_dialhouse_k47_whole_regrets) rfl rfl ⟨rfl, by decide, by decide⟩ (fun w h Y => PySem.W.kIn_of Y) ?F
  case F =>
    intro w mg fa h KX G hmg
    refine' K47.all_ok ?T ?d__law_row ?d__law_at ?d__law_steps ?d__law_plans ?d_TooMany ?d_check_tariffs ?d_check_choice ?d_check_uses ?d_check_use ?d_Tariff_charge ?d_plain_regret ?d_regret_of ?d_check_frame ?d_corners_of ?d_turning_uses ?d_worst_of ?d_worst_regret ?d_least_regret ?d__law_called ?d__law_refused ?d__law_cell ?d_check_steps ?d_Tariff___init__ ?d__law_uses ?d__law_lines ?d__law_charge ?d__law_regret ?d__law_worst ?d__law_is_whole ?d__law_pair ?d__law_right ?d_law hmg ?hm
    case hm => exact K47.law_true
    case T =>
      refine' K47.Txt.mk ?b_bool ?b_int ?b_isinstance ?b_len ?b_list ?b_max ?b_min ?b_range ?b_set ?b_sorted ?b_str ?b_sum ?b_tuple ?c_MOST_DAYS ?c_MOST_PRICE ?c_MOST_STEPS ?c_MOST_TARIFFS ?c_MOST_UNIT ?c_MOST_USE ?x_BadOrder ?x_Empty ?x_OutOfRange ?n_Empty ?n_MeterError ?n_OutOfRange ?n_TooMany ?xf_TooMany ?cl_Tariff ?sub
      · (refine' DH.none_mk KX G ?a_1; k_is)
      · (refine' DH.none_mk KX G ?a_2; k_is)
      · (refine' DH.none_mk KX G ?a_3; k_is)
      · (refine' DH.none_mk KX G ?a_4; k_is)
      · (refine' DH.none_mk KX G ?a_5; k_is)
      · (refine' DH.none_mk KX G ?a_6; k_is)
      · (refine' DH.none_mk KX G ?a_7; k_is)
      · (refine' DH.none_mk KX G ?a_8; k_is)
      · (refine' DH.none_mk KX G ?a_9; k_is)
      · (refine' DH.none_mk KX G ?a_10; k_is)
      · (refine' DH.none_mk KX G ?a_11; k_is)
      · (refine' DH.none_mk KX G ?a_12; k_is)
      · (refine' DH.none_mk KX G ?a_13; k_is)
      · (refine' DH.int_mk KX G ?a_14; (case a_14 => k_is))
      · (refine' DH.int_mk KX G ?a_15; (case a_15 => k_is))
      · (refine' DH.int_mk KX G ?a_16; (case a_16 => k_is))
      · (refine' DH.int_mk KX G ?a_17; (case a_17 => k_is))
      · (refine' DH.int_mk KX G ?a_18; (case a_18 => k_is))
      · (refine' DH.int_mk KX G ?a_19; (case a_19 => k_is))
      · (refine' DH.x0_mk KX G ?a_20 ?e_20 ?k_20 ?s_20 ?t_20; (case a_20 => k_is); (case e_20 => k_exc); (case k_20 => k_is); (case s_20 => k_is); (case t_20 => k_is))
      · (refine' DH.x0_mk KX G ?a_21 ?e_21 ?k_21 ?s_21 ?t_21; (case a_21 => k_is); (case e_21 => k_exc); (case k_21 => k_is); (case s_21 => k_is); (case t_21 => k_is))
      · (refine' DH.x0_mk KX G ?a_22 ?e_22 ?k_22 ?s_22 ?t_22; (case a_22 => k_is); (case e_22 => k_exc); (case k_22 => k_is); (case s_22 => k_is); (case t_22 => k_is))
      · (refine' DH.nm_mk KX G ?a_23; (case a_23 => k_is))
      · (refine' DH.nm_mk KX G ?a_24; (case a_24 => k_is))
      · (refine' DH.nm_mk KX G ?a_25; (case a_25 => k_is))
      · (refine' DH.nm_mk KX G ?a_26; (case a_26 => k_is))
      · (refine' DH.xf_of (cs := ["TooMany"]) (DH.fa_cons ?qTooMany0 DH.fa_nil) (by decide +kernel); (case qTooMany0 => (refine' DH.xfo_mk KX G ?a_27 ?ga_27 ?gg_27 ?e_27 ?hd_27 ?no_27; (case a_27 => k_is); (case ga_27 => k_is); (case gg_27 => k_is); (case e_27 => k_is); (case hd_27 => k_is); (case no_27 => (refine' List.forall_mem_cons.mpr ⟨?_, ?_⟩; k_is; exact fun _ z => nomatch z)))))
      · (refine' DH.cl_mk KX G ?a_28 ?pg_28 ?hd_28 ?po_28 ?sa_28 ?no_28; (case a_28 => k_is); (case pg_28 => k_is); (case hd_28 => k_is); (case po_28 => k_is); (case sa_28 => k_is); (case no_28 => (refine' List.forall_mem_cons.mpr ⟨?_, ?_⟩; k_is; refine' List.forall_mem_cons.mpr ⟨?_, ?_⟩; k_is; exact fun _ z => nomatch z)))
      · (refine' DH.tab_ok (DH.all_cons ?pp0 (DH.all_cons ?pp1 (DH.all_cons ?pp2 (DH.all_cons ?pp3 (DH.all_cons ?pp4 (DH.all_cons ?pp5 (DH.all_cons ?pp6 (DH.all_cons ?pp7 (DH.all_cons ?pp8 (DH.all_cons ?pp9 (DH.all_cons ?pp10 (DH.all_cons ?pp11 (DH.all_cons ?pp12 (DH.all_cons ?pp13 (DH.all_cons ?pp14 (DH.all_cons ?pp15 DH.all_nil)))))))))))))))); (case pp0 => (refine' DH.pair_mk KX G ?a_29 ?b_29 ?h1_29 ?h2_29 ?h3_29 ?h4_29; (case a_29 => k_is); (case b_29 => k_is); (case h1_29 => k_is); (case h2_29 => k_is); (case h3_29 => k_is); (case h4_29 => first | rfl | k_is))); (case pp1 => (refine' DH.pair_mk KX G ?a_30 ?b_30 ?h1_30 ?h2_30 ?h3_30 ?h4_30; (case a_30 => k_is); (case b_30 => k_is); (case h1_30 => k_is); (case h2_30 => k_is); (case h3_30 => k_is); (case h4_30 => first | rfl | k_is))); (case pp2 => (refine' DH.pair_mk KX G ?a_31 ?b_31 ?h1_31 ?h2_31 ?h3_31 ?h4_31; (case a_31 => k_is); (case b_31 => k_is); (case h1_31 => k_is); (case h2_31 => k_is); (case h3_31 => k_is); (case h4_31 => first | rfl | k_is))); (case pp3 => (refine' DH.pair_mk KX G ?a_32 ?b_32 ?h1_32 ?h2_32 ?h3_32 ?h4_32; (case a_32 => k_is); (case b_32 => k_is); (case h1_32 => k_is); (case h2_32 => k_is); (case h3_32 => k_is); (case h4_32 => first | rfl | k_is))); (case pp4 => (refine' DH.pair_mk KX G ?a_33 ?b_33 ?h1_33 ?h2_33 ?h3_33 ?h4_33; (case a_33 => k_is); (case b_33 => k_is); (case h1_33 => k_is); (case h2_33 => k_is); (case h3_33 => k_is); (case h4_33 => first | rfl | k_is))); (case pp5 => (refine' DH.pair_mk KX G ?a_34 ?b_34 ?h1_34 ?h2_34 ?h3_34 ?h4_34; (case a_34 => k_is); (case b_34 => k_is); (case h1_34 => k_is); (case h2_34 => k_is); (case h3_34 => k_is); (case h4_34 => first | rfl | k_is))); (case pp6 => (refine' DH.pair_mk KX G ?a_35 ?b_35 ?h1_35 ?h2_35 ?h3_35 ?h4_35; (case a_35 => k_is); (case b_35 => k_is); (case h1_35 => k_is); (case h2_35 => k_is); (case h3_35 => k_is); (case h4_35 => first | rfl | k_is))); (case pp7 => (refine' DH.pair_mk KX G ?a_36 ?b_36 ?h1_36 ?h2_36 ?h3_36 ?h4_36; (case a_36 => k_is); (case b_36 => k_is); (case h1_36 => k_is); (case h2_36 => k_is); (case h3_36 => k_is); (case h4_36 => first | rfl | k_is))); (case pp8 => (refine' DH.pair_mk KX G ?a_37 ?b_37 ?h1_37 ?h2_37 ?h3_37 ?h4_37; (case a_37 => k_is); (case b_37 => k_is); (case h1_37 => k_is); (case h2_37 => k_is); (case h3_37 => k_is); (case h4_37 => first | rfl | k_is))); (case pp9 => (refine' DH.pair_mk KX G ?a_38 ?b_38 ?h1_38 ?h2_38 ?h3_38 ?h4_38; (case a_38 => k_is); (case b_38 => k_is); (case h1_38 => k_is); (case h2_38 => k_is); (case h3_38 => k_is); (case h4_38 => first | rfl | k_is))); (case pp10 => (refine' DH.pair_mk KX G ?a_39 ?b_39 ?h1_39 ?h2_39 ?h3_39 ?h4_39; (case a_39 => k_is); (case b_39 => k_is); (case h1_39 => k_is); (case h2_39 => k_is); (case h3_39 => k_is); (case h4_39 => first | rfl | k_is))); (case pp11 => (refine' DH.pair_mk KX G ?a_40 ?b_40 ?h1_40 ?h2_40 ?h3_40 ?h4_40; (case a_40 => k_is); (case b_40 => k_is); (case h1_40 => k_is); (case h2_40 => k_is); (case h3_40 => k_is); (case h4_40 => first | rfl | k_is))); (case pp12 => (refine' DH.pair_mk KX G ?a_41 ?b_41 ?h1_41 ?h2_41 ?h3_41 ?h4_41; (case a_41 => k_is); (case b_41 => k_is); (case h1_41 => k_is); (case h2_41 => k_is); (case h3_41 => k_is); (case h4_41 => first | rfl | k_is))); (case pp13 => (refine' DH.pair_mk KX G ?a_42 ?b_42 ?h1_42 ?h2_42 ?h3_42 ?h4_42; (case a_42 => k_is); (case b_42 => k_is); (case h1_42 => k_is); (case h2_42 => k_is); (case h3_42 => k_is); (case h4_42 => first | rfl | k_is))); (case pp14 => (refine' DH.pair_mk KX G ?a_43 ?b_43 ?h1_43 ?h2_43 ?h3_43 ?h4_43; (case a_43 => k_is); (case b_43 => k_is); (case h1_43 => k_is); (case h2_43 => k_is); (case h3_43 => k_is); (case h4_43 => first | rfl | k_is))); (case pp15 => (refine' DH.pair_mk KX G ?a_44 ?b_44 ?h1_44 ?h2_44 ?h3_44 ?h4_44; (case a_44 => k_is); (case b_44 => k_is); (case h1_44 => k_is); (case h2_44 => k_is); (case h3_44 => k_is); (case h4_44 => first | rfl | k_is))))
    case d__law_row => (refine' DH.def_mk KX G ?a_45 ?l_45 ?c_45 ?k_45; (case a_45 => k_is); (case l_45 => k_is); (case c_45 => k_is); (case k_45 => k_is))
    case d__law_at => (refine' DH.def_mk KX G ?a_46 ?l_46 ?c_46 ?k_46; (case a_46 => k_is); (case l_46 => k_is); (case c_46 => k_is); (case k_46 => k_is))
    case d__law_steps => (refine' DH.def_mk KX G ?a_47 ?l_47 ?c_47 ?k_47; (case a_47 => k_is); (case l_47 => k_is); (case c_47 => k_is); (case k_47 => k_is))
    case d__law_plans => (refine' DH.def_mk KX G ?a_48 ?l_48 ?c_48 ?k_48; (case a_48 => k_is); (case l_48 => k_is); (case c_48 => k_is); (case k_48 => k_is))
    case d_TooMany => (refine' DH.xn_mk KX G ?a_49 ?xL_49 ?rb_49 ?sa_49 ?eC_49 ?tC_49 ?kC_49 ?no_49 ?a1_49 ?t1_49 ?l_49 ?c_49 ?k_49; (case a_49 => k_is); (case xL_49 => k_is); (case rb_49 => decide +kernel); (case sa_49 => k_is); (case eC_49 => k_is); (case tC_49 => k_is); (case kC_49 => k_is); (case no_49 => (refine' List.forall_mem_cons.mpr ⟨?_, ?_⟩; k_is; exact fun _ z => nomatch z)); (case a1_49 => k_is); (case t1_49 => k_is); (case l_49 => k_is); (case c_49 => k_is); (case k_49 => k_is))
    case d_check_tariffs => (refine' DH.def_mk KX G ?a_50 ?l_50 ?c_50 ?k_50; (case a_50 => k_is); (case l_50 => k_is); (case c_50 => k_is); (case k_50 => k_is))
    case d_check_choice => (refine' DH.def_mk KX G ?a_51 ?l_51 ?c_51 ?k_51; (case a_51 => k_is); (case l_51 => k_is); (case c_51 => k_is); (case k_51 => k_is))
    case d_check_uses => (refine' DH.def_mk KX G ?a_52 ?l_52 ?c_52 ?k_52; (case a_52 => k_is); (case l_52 => k_is); (case c_52 => k_is); (case k_52 => k_is))
    case d_check_use => (refine' DH.def_mk KX G ?a_53 ?l_53 ?c_53 ?k_53; (case a_53 => k_is); (case l_53 => k_is); (case c_53 => k_is); (case k_53 => k_is))
    case d_Tariff_charge => (refine' DH.mth_mk KX G ?aC_54 ?a_54 ?i_54 ?l_54 ?c_54 ?k_54; (case aC_54 => k_is); (case a_54 => k_is); (case i_54 => k_is); (case l_54 => k_is); (case c_54 => k_is); (case k_54 => k_is))
    case d_plain_regret => (refine' DH.def_mk KX G ?a_55 ?l_55 ?c_55 ?k_55; (case a_55 => k_is); (case l_55 => k_is); (case c_55 => k_is); (case k_55 => k_is))
    case d_regret_of => (refine' DH.def_mk KX G ?a_56 ?l_56 ?c_56 ?k_56; (case a_56 => k_is); (case l_56 => k_is); (case c_56 => k_is); (case k_56 => k_is))
    case d_check_frame => (refine' DH.def_mk KX G ?a_57 ?l_57 ?c_57 ?k_57; (case a_57 => k_is); (case l_57 => k_is); (case c_57 => k_is); (case k_57 => k_is))
    case d_corners_of => (refine' DH.def_mk KX G ?a_58 ?l_58 ?c_58 ?k_58; (case a_58 => k_is); (case l_58 => k_is); (case c_58 => k_is); (case k_58 => k_is))
    case d_turning_uses => (refine' DH.def_mk KX G ?a_59 ?l_59 ?c_59 ?k_59; (case a_59 => k_is); (case l_59 => k_is); (case c_59 => k_is); (case k_59 => k_is))
    case d_worst_of => (refine' DH.def_mk KX G ?a_60 ?l_60 ?c_60 ?k_60; (case a_60 => k_is); (case l_60 => k_is); (case c_60 => k_is); (case k_60 => k_is))
    case d_worst_regret => (refine' DH.def_mk KX G ?a_61 ?l_61 ?c_61 ?k_61; (case a_61 => k_is); (case l_61 => k_is); (case c_61 => k_is); (case k_61 => k_is))
    case d_least_regret => (refine' DH.def_mk KX G ?a_62 ?l_62 ?c_62 ?k_62; (case a_62 => k_is); (case l_62 => k_is); (case c_62 => k_is); (case k_62 => k_is))
    case d__law_called => (refine' DH.def_mk KX G ?a_63 ?l_63 ?c_63 ?k_63; (case a_63 => k_is); (case l_63 => k_is); (case c_63 => k_is); (case k_63 => k_is))
    case d__law_refused => (refine' DH.def_mk KX G ?a_64 ?l_64 ?c_64 ?k_64; (case a_64 => k_is); (case l_64 => k_is); (case c_64 => k_is); (case k_64 => k_is))
    case d__law_cell => (refine' DH.def_mk KX G ?a_65 ?l_65 ?c_65 ?k_65; (case a_65 => k_is); (case l_65 => k_is); (case c_65 => k_is); (case k_65 => k_is))
    case d_check_steps => (refine' DH.def_mk KX G ?a_66 ?l_66 ?c_66 ?k_66; (case a_66 => k_is); (case l_66 => k_is); (case c_66 => k_is); (case k_66 => k_is))
    case d_Tariff___init__ => (refine' DH.ini_mk KX G ?aC_67 ?a_67 ?i_67 ?l_67 ?c_67 ?k_67 ?mk_67 ?kc_67; (case aC_67 => k_is); (case a_67 => k_is); (case i_67 => k_is); (case l_67 => k_is); (case c_67 => k_is); (case k_67 => k_is); (case mk_67 => k_is); (case kc_67 => k_is))
    case d__law_uses => (refine' DH.def_mk KX G ?a_68 ?l_68 ?c_68 ?k_68; (case a_68 => k_is); (case l_68 => k_is); (case c_68 => k_is); (case k_68 => k_is))
    case d__law_lines => (refine' DH.def_mk KX G ?a_69 ?l_69 ?c_69 ?k_69; (case a_69 => k_is); (case l_69 => k_is); (case c_69 => k_is); (case k_69 => k_is))
    case d__law_charge => (refine' DH.def_mk KX G ?a_70 ?l_70 ?c_70 ?k_70; (case a_70 => k_is); (case l_70 => k_is); (case c_70 => k_is); (case k_70 => k_is))
    case d__law_regret => (refine' DH.def_mk KX G ?a_71 ?l_71 ?c_71 ?k_71; (case a_71 => k_is); (case l_71 => k_is); (case c_71 => k_is); (case k_71 => k_is))
    case d__law_worst => (refine' DH.def_mk KX G ?a_72 ?l_72 ?c_72 ?k_72; (case a_72 => k_is); (case l_72 => k_is); (case c_72 => k_is); (case k_72 => k_is))
    case d__law_is_whole => (refine' DH.def_mk KX G ?a_73 ?l_73 ?c_73 ?k_73; (case a_73 => k_is); (case l_73 => k_is); (case c_73 => k_is); (case k_73 => k_is))
    case d__law_pair => (refine' DH.def_mk KX G ?a_74 ?l_74 ?c_74 ?k_74; (case a_74 => k_is); (case l_74 => k_is); (case c_74 => k_is); (case k_74 => k_is))
    case d__law_right => (refine' DH.def_mk KX G ?a_75 ?l_75 ?c_75 ?k_75; (case a_75 => k_is); (case l_75 => k_is); (case c_75 => k_is); (case k_75 => k_is))
    case d_law => (refine' DH.def_mk KX G ?a_76 ?l_76 ?c_76 ?k_76; (case a_76 => k_is); (case l_76 => k_is); (case c_76 => k_is); (case k_76 => k_is))
