import PyProof.Rows.All
import Wide.All
import OpenK.AllK
import Wide.FinOn
import HandS.ForMost
import HandS.ForExc
import HandS.Defaults
import HandS.Flow
import HandS.Star
import HandS.Zip
import HandS.ExcOwn
import HandS.CallSlots
import HandS.List
import HandS.Text
import HandS.Deep
import HandS.Wide
import HandS.TupAny
import HandS.RaiseMore
import HandS.IsInst
import HandS.Iter
import HandS.Comp
import HandS.Style
import PyProof.CollectIter
import PyProof.RulesMatchSeq
import PyProof.Rows.TupIter
import PyProof.Rows.MatchSeqLen
import HandS.Dict
import HandS.OwnEq
import OpenK.KOps
import OpenK.KMeth
import KE.KCallOwn
import PyProof.InstEq
import HandS.ClsMeth
import HandS.Property
import PyProof.ReprRoads
import PyProof.CallFns
import HandS.Ends
import HandS.HeadEnd
import HandS.Head2
import HandS.HeadHook2
import KE.GoesEnum
import HandS.HeadNt
import HandS.HeadWalk
import KE.KExcSuper
import HandS.ExcInit
import HandS.ExcCtx
import HandS.Hot
import HandS.HotCalls
import HandS.RaiseFrom
import HandS.ExcField
import HandS.TryOnly
import KE.KExcIs
import HandS.StrMore
import HandS.FStr
import HandS.DictComp
import HandS.WordsDict
import HandS.Head0
import HandS.Head1
import PySem.Challenge.RW_stepsback_k04_texts_of_rows
set_option Elab.async false
set_option linter.all false
set_option maxRecDepth 100000
set_option maxHeartbeats 4000000
section
/-! TL1: values as trees (PV), what stands for a tree in the abstract heap (Rep), steps of the heap that leave what is known (Step), slots (RS). -/
namespace TreeL
open PySem PySem.Spec PyProof.Rows L2

/-- a value as a tree -/
inductive PV where
  | non | bl (b : Bool) | int (i : Int) | str (x : Str)
  | lst (xs : List PV) | tup (xs : List PV)
  | ins (c : Nat) (fs : List (Str × PV))
  | dct (t : Bool) (kvs : List (PV × PV))
  | scr (ns : List Int)
  | cls (k : Nat)
  deriving Inhabited

/-- a text that the model may hold -/
def StrG (x : Str) : Prop := x.length ≤ sizeLine ∧ PyData.strOk x = true
/-- a key of a dict (an int or a text; a tuple of such) as a tree -/
def keyP : Key → PV
  | .inl i => .int i
  | .inr x => .str x

mutual
def PV.beq : PV → PV → Bool
  | .non, .non => true
  | .bl a, .bl b => a == b
  | .int a, .int b => a == b
  | .str a, .str b => a == b
  | .lst a, .lst b => PV.beqL a b
  | .tup a, .tup b => PV.beqL a b
  | .ins k a, .ins l b => k == l && PV.beqF a b
  | .dct k a, .dct l b => k == l && PV.beqP a b
  | .scr a, .scr b => a == b
  | .cls a, .cls b => a == b
  | _, _ => false
def PV.beqL : List PV → List PV → Bool
  | [], [] => true
  | x :: xs, y :: ys => PV.beq x y && PV.beqL xs ys
  | _, _ => false
def PV.beqF : List (Str × PV) → List (Str × PV) → Bool
  | [], [] => true
  | (f, x) :: xs, (g, y) :: ys => f == g && PV.beq x y && PV.beqF xs ys
  | _, _ => false
def PV.beqP : List (PV × PV) → List (PV × PV) → Bool
  | [], [] => true
  | (f, x) :: xs, (g, y) :: ys => PV.beq f g && PV.beq x y && PV.beqP xs ys
  | _, _ => false
end
mutual
theorem PV.beq_self : ∀ x : PV, PV.beq x x = true
  | .non => by simp [PV.beq]
  | .bl a => by simp [PV.beq]
  | .int a => by simp [PV.beq]
  | .str a => by simp [PV.beq]
  | .lst a => by rw [PV.beq]; exact PV.beqL_self a
  | .tup a => by rw [PV.beq]; exact PV.beqL_self a
  | .ins k a => by rw [PV.beq, PV.beqF_self a]; simp
  | .dct k a => by rw [PV.beq, PV.beqP_self a]; simp
  | .scr a => by simp [PV.beq]
  | .cls a => by simp [PV.beq]
theorem PV.beqL_self : ∀ x : List PV, PV.beqL x x = true
  | [] => by simp [PV.beqL]
  | x :: xs => by rw [PV.beqL, PV.beq_self x, PV.beqL_self xs]; rfl
theorem PV.beqF_self : ∀ x : List (Str × PV), PV.beqF x x = true
  | [] => by simp [PV.beqF]
  | (f, x) :: xs => by rw [PV.beqF, PV.beq_self x, PV.beqF_self xs]; simp
theorem PV.beqP_self : ∀ x : List (PV × PV), PV.beqP x x = true
  | [] => by simp [PV.beqP]
  | (f, x) :: xs => by rw [PV.beqP, PV.beq_self f, PV.beq_self x, PV.beqP_self xs]; rfl
end
mutual
theorem PV.beq_eq : ∀ {x y : PV}, PV.beq x y = true → x = y
  | .non, y, h => by cases y <;> first | rfl | simp [PV.beq] at h
  | .bl a, y, h => by cases y <;> simp [PV.beq] at h; rw [h]
  | .int a, y, h => by cases y <;> simp [PV.beq] at h; rw [h]
  | .str a, y, h => by cases y <;> simp [PV.beq] at h; rw [h]
  | .lst a, y, h => by
    cases y <;> simp [PV.beq] at h
    rw [PV.beqL_eq h]
  | .tup a, y, h => by
    cases y <;> simp [PV.beq] at h
    rw [PV.beqL_eq h]
  | .ins k a, y, h => by
    cases y <;> simp [PV.beq] at h
    rw [h.1, PV.beqF_eq h.2]
  | .dct k a, y, h => by
    cases y <;> simp [PV.beq] at h
    rw [h.1, PV.beqP_eq h.2]
  | .scr a, y, h => by cases y <;> simp [PV.beq] at h; rw [h]
  | .cls a, y, h => by cases y <;> simp [PV.beq] at h; rw [h]
theorem PV.beqL_eq : ∀ {x y : List PV}, PV.beqL x y = true → x = y
  | [], [], _ => rfl
  | [], _ :: _, h => by simp [PV.beqL] at h
  | _ :: _, [], h => by simp [PV.beqL] at h
  | x :: xs, y :: ys, h => by
    simp [PV.beqL] at h
    rw [PV.beq_eq h.1, PV.beqL_eq h.2]
theorem PV.beqF_eq : ∀ {x y : List (Str × PV)}, PV.beqF x y = true → x = y
  | [], [], _ => rfl
  | [], _ :: _, h => by simp [PV.beqF] at h
  | _ :: _, [], h => by simp [PV.beqF] at h
  | (f, x) :: xs, (g, y) :: ys, h => by
    simp [PV.beqF] at h
    rw [h.1.1, PV.beq_eq h.1.2, PV.beqF_eq h.2]
theorem PV.beqP_eq : ∀ {x y : List (PV × PV)}, PV.beqP x y = true → x = y
  | [], [], _ => rfl
  | [], _ :: _, h => by simp [PV.beqP] at h
  | _ :: _, [], h => by simp [PV.beqP] at h
  | (f, x) :: xs, (g, y) :: ys, h => by
    simp [PV.beqP] at h
    rw [PV.beq_eq h.1.1, PV.beq_eq h.1.2, PV.beqP_eq h.2]
end
/-- what is fixed: the addresses of the classes by number, the written part -/
structure TC where
  C : Nat → Addr
  K : PySem.W.Frag

mutual
def Rep (c : TC) (G : Hp) : PV → V → Prop
  | .non, v => v = .non
  | .bl b, v => v = .bl b
  | .int i, v => v = .int i
  | .str x, v => v = .str x ∧ StrG x
  | .lst xs, v => ∃ p vs, v = .ref p ∧ G p = some (.lst vs) ∧ RepL c G xs vs
  | .tup xs, v => ∃ p vs, v = .ref p ∧ SqT c.K G p vs ∧ RepL c G xs vs
  | .ins k fs, v => ∃ p dx gs, v = .ref p ∧ G p = some (.ins (c.C k) dx gs) ∧ RepF c G fs gs
  | .dct t kvs, v => ∃ p, v = .ref p ∧
      ((t = false ∧ ∃ ks, G p = some (.dK ks) ∧ RepK c G kvs ks) ∨ (t = true ∧ ∃ ks, G p = some (.dT ks) ∧ RepT c G kvs ks))
  | .scr ns, v => ∃ p, v = .ref p ∧ SqL c.K G p (ns.map V.int)
  | .cls k, v => v = .ref (c.C k)
def RepL (c : TC) (G : Hp) : List PV → List V → Prop
  | [], vs => vs = []
  | x :: xs, vs => ∃ v r, vs = v :: r ∧ Rep c G x v ∧ RepL c G xs r
def RepF (c : TC) (G : Hp) : List (Str × PV) → List (Str × V) → Prop
  | [], vs => vs = []
  | (f, x) :: xs, vs => ∃ v r, vs = (f, v) :: r ∧ Rep c G x v ∧ RepF c G xs r
def RepK (c : TC) (G : Hp) : List (PV × PV) → List (Key × V) → Prop
  | [], vs => vs = []
  | (k, x) :: xs, vs => ∃ q v r, vs = (q, v) :: r ∧ k = keyP q ∧ Rep c G x v ∧ RepK c G xs r
def RepT (c : TC) (G : Hp) : List (PV × PV) → List (List Key × V) → Prop
  | [], vs => vs = []
  | (k, x) :: xs, vs => ∃ q v r, vs = (q, v) :: r ∧ k = .tup (q.map keyP) ∧ Rep c G x v ∧ RepT c G xs r
end

/-- what is known stays -/
def Sub (G H : Hp) : Prop := ∀ a o, G a = some o → H a = some o
theorem Sub.refl (G : Hp) : Sub G G := fun _ _ h => h
theorem Sub.trans {G H I : Hp} (a : Sub G H) (b : Sub H I) : Sub G I := fun x o h => b x o (a x o h)
theorem Sub.rd {G H : Hp} (e : Sub G H) {a : Addr} {u : HO} (h : Rd G a u) : Rd H a u := by
  rcases h with h | ⟨o, h⟩
  · exact Or.inl (e _ _ h)
  · exact Or.inr ⟨o, e _ _ h⟩
theorem Sub.sqL {K : PySem.W.Frag} {G H : Hp} (e : Sub G H) {a : Addr} {xs : List V} (h : SqL K G a xs) : SqL K H a xs := by
  rcases h with h | h
  · exact Or.inl (e.rd h)
  · exact Or.inr h
theorem Sub.sqT {K : PySem.W.Frag} {G H : Hp} (e : Sub G H) {a : Addr} {xs : List V} (h : SqT K G a xs) : SqT K H a xs := by
  rcases h with h | h
  · exact Or.inl (e.rd h)
  · exact Or.inr h

section
variable {c : TC} {G H : Hp}
mutual
theorem Rep.mono (e : Sub G H) : ∀ {t : PV} {v : V}, Rep c G t v → Rep c H t v
  | .non, _, h => h
  | .bl _, _, h => h
  | .int _, _, h => h
  | .str _, _, h => h
  | .lst xs, _, ⟨p, vs, a, b, r⟩ => ⟨p, vs, a, e _ _ b, RepL.mono e r⟩
  | .tup xs, _, ⟨p, vs, a, b, r⟩ => ⟨p, vs, a, e.sqT b, RepL.mono e r⟩
  | .ins k fs, _, ⟨p, dx, gs, a, b, r⟩ => ⟨p, dx, gs, a, e _ _ b, RepF.mono e r⟩
  | .dct t kvs, _, ⟨p, a, h⟩ => ⟨p, a, match h with
      | .inl ⟨t, ks, b, r⟩ => .inl ⟨t, ks, e _ _ b, RepK.mono e r⟩
      | .inr ⟨t, ks, b, r⟩ => .inr ⟨t, ks, e _ _ b, RepT.mono e r⟩⟩
  | .scr _, _, ⟨p, a, h⟩ => ⟨p, a, e.sqL h⟩
  | .cls _, _, h => h
theorem RepL.mono (e : Sub G H) : ∀ {t : List PV} {v : List V}, RepL c G t v → RepL c H t v
  | [], _, h => h
  | _ :: _, _, ⟨v, r, a, b, d⟩ => ⟨v, r, a, Rep.mono e b, RepL.mono e d⟩
theorem RepF.mono (e : Sub G H) : ∀ {t : List (Str × PV)} {v : List (Str × V)}, RepF c G t v → RepF c H t v
  | [], _, h => h
  | (_, _) :: _, _, ⟨v, r, a, b, d⟩ => ⟨v, r, a, Rep.mono e b, RepF.mono e d⟩
theorem RepK.mono (e : Sub G H) : ∀ {t : List (PV × PV)} {v : List (Key × V)}, RepK c G t v → RepK c H t v
  | [], _, h => h
  | (_, _) :: _, _, ⟨q, v, r, a, k, b, d⟩ => ⟨q, v, r, a, k, Rep.mono e b, RepK.mono e d⟩
theorem RepT.mono (e : Sub G H) : ∀ {t : List (PV × PV)} {v : List (List Key × V)}, RepT c G t v → RepT c H t v
  | [], _, h => h
  | (_, _) :: _, _, ⟨q, v, r, a, k, b, d⟩ => ⟨q, v, r, a, k, Rep.mono e b, RepT.mono e d⟩
end
theorem RepL.length : ∀ {t : List PV} {v : List V}, RepL c G t v → v.length = t.length
  | [], _, h => by cases h; rfl
  | _ :: _, _, ⟨v, r, a, _, d⟩ => by subst a; simp [RepL.length d]
theorem RepL.get : ∀ {t : List PV} {v : List V} {i : Nat} {x : PV}, RepL c G t v → t[i]? = some x → ∃ u, v[i]? = some u ∧ Rep c G x u
  | [], _, _, _, _, e => by simp at e
  | _ :: _, _, 0, x, ⟨v, r, a, b, d⟩, e => by
    subst a
    simp at e
    subst e
    exact ⟨v, rfl, b⟩
  | _ :: ts, _, i + 1, x, ⟨v, r, a, b, d⟩, e => by
    subst a
    obtain ⟨u, h1, h2⟩ := RepL.get (i := i) d (by simpa using e)
    exact ⟨u, by simpa using h1, h2⟩
theorem RepL.getV : ∀ {t : List PV} {v : List V} {i : Nat} {u : V}, RepL c G t v → v[i]? = some u → ∃ x, t[i]? = some x ∧ Rep c G x u
  | [], _, _, _, h, e => by cases h; simp at e
  | x :: _, _, 0, u, ⟨v, r, a, b, d⟩, e => by
    subst a
    simp at e
    subst e
    exact ⟨x, rfl, b⟩
  | _ :: ts, _, i + 1, x, ⟨v, r, a, b, d⟩, e => by
    subst a
    obtain ⟨u, h1, h2⟩ := RepL.getV (i := i) d (by simpa using e)
    exact ⟨u, by simpa using h1, h2⟩
theorem RepL.append : ∀ {t t' : List PV} {v v' : List V}, RepL c G t v → RepL c G t' v' → RepL c G (t ++ t') (v ++ v')
  | [], _, _, _, h, h' => by cases h; exact h'
  | _ :: _, _, _, _, ⟨v, r, a, b, d⟩, h' => by subst a; exact ⟨v, r ++ _, rfl, b, RepL.append d h'⟩
theorem RepL.take : ∀ {t : List PV} {v : List V} (n : Nat), RepL c G t v → RepL c G (t.take n) (v.take n)
  | _, _, 0, _ => by simp [RepL]
  | [], _, n + 1, h => by cases h; simp [RepL]
  | _ :: _, _, n + 1, ⟨v, r, a, b, d⟩ => by subst a; exact ⟨v, _, rfl, b, RepL.take n d⟩
theorem RepL.drop : ∀ {t : List PV} {v : List V} (n : Nat), RepL c G t v → RepL c G (t.drop n) (v.drop n)
  | _, _, 0, h => by simpa using h
  | [], _, n + 1, h => by cases h; simp [RepL]
  | _ :: _, _, n + 1, ⟨v, r, a, b, d⟩ => by subst a; simpa using RepL.drop n d
theorem RepL.one {t : PV} {v : V} (h : Rep c G t v) : RepL c G [t] [v] := ⟨v, [], rfl, h, rfl⟩
theorem RepL.nil : RepL c G [] [] := rfl
theorem RepL.cons {t : PV} {v : V} {ts : List PV} {vs : List V} (h : Rep c G t v) (r : RepL c G ts vs) : RepL c G (t :: ts) (v :: vs) := ⟨v, vs, rfl, h, r⟩
theorem RepL.reverse : ∀ {t : List PV} {v : List V}, RepL c G t v → RepL c G t.reverse v.reverse
  | [], _, h => by cases h; exact RepL.nil
  | _ :: _, _, ⟨v, r, a, b, d⟩ => by
    subst a
    rw [List.reverse_cons, List.reverse_cons]
    exact (RepL.reverse d).append (RepL.one b)
theorem RepL.set : ∀ {t : List PV} {v : List V} (i : Nat) {x : PV} {u : V}, RepL c G t v → Rep c G x u → RepL c G (t.set i x) (v.set i u)
  | [], _, _, _, _, h, _ => by cases h; exact RepL.nil
  | _ :: _, _, 0, _, u, ⟨v, r, a, b, d⟩, h => by subst a; exact ⟨u, r, rfl, h, d⟩
  | _ :: _, _, i + 1, _, _, ⟨v, r, a, b, d⟩, h => by subst a; exact ⟨v, _, rfl, b, RepL.set i d h⟩
theorem RepL.eraseIdx : ∀ {t : List PV} {v : List V} (i : Nat), RepL c G t v → RepL c G (t.eraseIdx i) (v.eraseIdx i)
  | [], _, _, h => by cases h; exact RepL.nil
  | _ :: _, _, 0, ⟨v, r, a, b, d⟩ => by subst a; exact d
  | _ :: _, _, i + 1, ⟨v, r, a, b, d⟩ => by subst a; exact ⟨v, _, rfl, b, RepL.eraseIdx i d⟩
theorem RepF.lookup : ∀ {t : List (Str × PV)} {v : List (Str × V)} {f : Str} {x : PV}, RepF c G t v → t.lookup f = some x → ∃ u, v.lookup f = some u ∧ Rep c G x u
  | [], _, _, _, _, e => by simp at e
  | (g, y) :: _, _, f, x, ⟨v, r, a, b, d⟩, e => by
    subst a
    rw [List.lookup_cons] at e
    rw [List.lookup_cons]
    cases h : f == g with
    | true =>
      rw [h] at e
      simp at e
      subst e
      exact ⟨v, rfl, b⟩
    | false =>
      rw [h] at e
      exact RepF.lookup d e
theorem RepF.lookupN : ∀ {t : List (Str × PV)} {v : List (Str × V)} {f : Str}, RepF c G t v → t.lookup f = none → v.lookup f = none
  | [], _, _, h, _ => by cases h; rfl
  | (g, y) :: _, _, f, ⟨v, r, a, b, d⟩, e => by
    subst a
    rw [List.lookup_cons] at e
    rw [List.lookup_cons]
    cases h : f == g with
    | true =>
      rw [h] at e
      simp at e
    | false =>
      rw [h] at e
      exact RepF.lookupN d e
theorem RepF.length : ∀ {t : List (Str × PV)} {v : List (Str × V)}, RepF c G t v → v.length = t.length
  | [], _, h => by cases h; rfl
  | (_, _) :: _, _, ⟨v, r, a, _, d⟩ => by subst a; simp [RepF.length d]
end

/-! ### steps -/
/-- from (H, G) to (H1, G1): H what stands, G what is known for good; A: the addresses that may change -/
structure Step (A : List Addr) (H G H1 G1 : Hp) : Prop where
  sub : Sub G G1
  sub1 : Sub G1 H1
  new : ∀ a o, G1 a = some o → G a = some o ∨ H a = none
  keep : ∀ a o, a ∉ A → H a = some o → H1 a = some o
  there : ∀ a, H1 a = none → H a = none
theorem Step.refl {A : List Addr} {H G : Hp} (h : Sub G H) : Step A H G H G := ⟨Sub.refl _, h, fun _ _ e => .inl e, fun _ _ _ e => e, fun _ e => e⟩
theorem Step.trans {A B : List Addr} {H G H1 G1 H2 G2 : Hp} (a : Step A H G H1 G1) (b : Step B H1 G1 H2 G2) (hB : ∀ x ∈ B, x ∈ A ∨ H x = none) : Step A H G H2 G2 where
  sub := a.sub.trans b.sub
  sub1 := b.sub1
  new := fun x o e => by
    rcases b.new x o e with e | e
    · exact a.new x o e
    · exact .inr (a.there x e)
  keep := fun x o hx e => by
    refine b.keep x o (fun hb => ?_) (a.keep x o hx e)
    rcases hB x hb with z | z
    · exact hx z
    · rw [e] at z; cases z
  there := fun x e => a.there x (b.there x e)
theorem Step.trans0 {A : List Addr} {H G H1 G1 H2 G2 : Hp} (a : Step A H G H1 G1) (b : Step [] H1 G1 H2 G2) : Step A H G H2 G2 := a.trans b fun _ z => nomatch z
theorem Step.wide {A B : List Addr} {H G H1 G1 : Hp} (a : Step A H G H1 G1) (h : ∀ x ∈ A, x ∈ B) : Step B H G H1 G1 := ⟨a.sub, a.sub1, a.new, fun x o hx e => a.keep x o (fun z => hx (h x z)) e, a.there⟩
/-- a new object that is known for good -/
theorem Step.alloc {H G : Hp} {p : Addr} {o : HO} (h : Sub G H) (hp : H p = none) : Step [] H G (upd H p o) (upd G p o) where
  sub := fun a u e => by
    have ne : a ≠ p := fun z => by rw [z] at e; rw [h _ _ e] at hp; cases hp
    rw [upd_ne ne]; exact e
  sub1 := fun a u e => by
    by_cases z : a = p
    · rw [z, upd_same] at e
      rw [z, upd_same]; exact e
    · rw [upd_ne z] at e
      rw [upd_ne z]; exact h _ _ e
  new := fun a u e => by
    by_cases z : a = p
    · rw [z]; exact .inr hp
    · rw [upd_ne z] at e
      exact .inl e
  keep := fun a u _ e => by rw [upd_ne (ne_of_none e hp)]; exact e
  there := fun a e => by
    by_cases z : a = p
    · rw [z, upd_same] at e; cases e
    · rw [upd_ne z] at e; exact e
/-- a new object of our own -/
theorem Step.allocO {H G : Hp} {p : Addr} {o : HO} (h : Sub G H) (hp : H p = none) : Step [] H G (upd H p o) G where
  sub := Sub.refl _
  sub1 := fun a u e => by rw [upd_ne (ne_of_none (h _ _ e) hp)]; exact h _ _ e
  new := fun a u e => .inl e
  keep := fun a u _ e => by rw [upd_ne (ne_of_none e hp)]; exact e
  there := fun a e => by
    by_cases z : a = p
    · rw [z, upd_same] at e; cases e
    · rw [upd_ne z] at e; exact e
/-- an object of ours is written -/
theorem Step.write {H G : Hp} {p : Addr} {o o' : HO} (h : Sub G H) (hp : G p = none) (hq : H p = some o') : Step [p] H G (upd H p o) G where
  sub := Sub.refl _
  sub1 := fun a u e => by
    have ne : a ≠ p := fun z => by rw [z, hp] at e; cases e
    rw [upd_ne ne]; exact h _ _ e
  new := fun a u e => .inl e
  keep := fun a u ha e => by rw [upd_ne (fun z => ha (by rw [z]; exact List.mem_singleton.mpr rfl))]; exact e
  there := fun a e => by
    by_cases z : a = p
    · rw [z, upd_same] at e; cases e
    · rw [upd_ne z] at e; exact e
/-- an object of ours is known for good from now on -/
theorem Step.freeze {H G : Hp} {p : Addr} {o : HO} (h : Sub G H) (hp : G p = none) (hq : H p = some o) : Sub G (upd G p o) ∧ Sub (upd G p o) H := by
  constructor
  · intro a u e
    have ne : a ≠ p := fun z => by rw [z, hp] at e; cases e
    rw [upd_ne ne]; exact e
  · intro a u e
    by_cases z : a = p
    · rw [z, upd_same] at e
      rw [z, hq]; exact e
    · rw [upd_ne z] at e
      exact h _ _ e

end TreeL
end
section
/-! TL2: slots, states (RS), results (RE, Sat), readings by tree functions (TEof, TTof, TAof, TSof). -/
namespace TreeL
open PySem PySem.Spec PyProof.Rows L2

/-- an object that one slot owns, and that may change -/
inductive OS where
  | lst (xs : List PV)
  | dct (t : Bool) (kvs : List (PV × PV))
  | ins (k : Nat) (fs : List (Str × PV))
  | boxD (great : List Int) (fs : List (Str × Int))
  | boxL (great : List Int) (m : Int)
  deriving Inhabited
inductive Arg where
  | t (t : PV) | ow (o : OS)
  deriving Inhabited
abbrev En := List (Option Arg)
/-- an exception: its class, its fields -/
structure EX where
  k : Nat
  fs : List (Str × PV)
/-- what an expression gives: a tree, or the object of a slot -/
inductive Vl where
  | tr (t : PV) | sl (i : Nat)
  deriving Inhabited

/-! ### results -/
inductive RE (α : Type) where
  | ok (a : α) (e : En) | exc (x : EX) (e : En) | bad
@[simp] def RE.bind {α β : Type} (r : RE α) (f : α → En → RE β) : RE β := match r with
  | .ok a e => f a e
  | .exc x e => .exc x e
  | .bad => .bad
def RE.Sat {α : Type} (P : α → En → Prop) (W : EX → En → Prop) : RE α → Prop
  | .ok a e => P a e
  | .exc x e => W x e
  | .bad => False
theorem Sat_bind {α β : Type} {r : RE α} {f : α → En → RE β} {P : β → En → Prop} {W : EX → En → Prop} : (r.bind f).Sat P W ↔ r.Sat (fun a e => (f a e).Sat P W) W := by
  cases r <;> rfl
theorem Sat_mono {α : Type} {r : RE α} {P P' : α → En → Prop} {W W' : EX → En → Prop} (h : r.Sat P W) (hP : ∀ a e, P a e → P' a e) (hW : ∀ x e, W x e → W' x e) : r.Sat P' W' := by
  cases r with
  | ok a e => exact hP _ _ h
  | exc x e => exact hW _ _ h
  | bad => exact h
@[simp] def ofO {α : Type} (o : Option α) (e : En) : RE α := match o with
  | some a => .ok a e
  | none => .bad
theorem Sat_ofO {α : Type} {o : Option α} {e : En} {P : α → En → Prop} {W : EX → En → Prop} : (ofO o e).Sat P W ↔ ∃ a, o = some a ∧ P a e := by
  cases o with
  | none => exact ⟨fun h => h.elim, fun ⟨_, e, _⟩ => nomatch e⟩
  | some a => exact ⟨fun h => ⟨a, rfl, h⟩, fun ⟨_, e, h⟩ => by cases e; exact h⟩

/-! ### what stands in the heap now, of parts that are known for good -/
def WRep (c : TC) (G H : Hp) : PV → V → Prop
  | .lst xs, v => ∃ p vs, v = .ref p ∧ H p = some (.lst vs) ∧ RepL c G xs vs
  | .tup xs, v => ∃ p vs, v = .ref p ∧ SqT c.K G p vs ∧ RepL c G xs vs
  | .ins k fs, v => ∃ p dx gs, v = .ref p ∧ H p = some (.ins (c.C k) dx gs) ∧ RepF c G fs gs
  | .dct t kvs, v => ∃ p, v = .ref p ∧
      ((t = false ∧ ∃ ks, H p = some (.dK ks) ∧ RepK c G kvs ks) ∨ (t = true ∧ ∃ ks, H p = some (.dT ks) ∧ RepT c G kvs ks))
  | .scr ns, v => ∃ p, v = .ref p ∧ SqL c.K G p (ns.map V.int)
  | .cls k, v => v = .ref (c.C k)
  | .non, v => v = .non
  | .bl b, v => v = .bl b
  | .int i, v => v = .int i
  | .str x, v => v = .str x ∧ StrG x
theorem Rep.w {c : TC} {G H : Hp} (s : Sub G H) : ∀ {t : PV} {v : V}, Rep c G t v → WRep c G H t v
  | .non, _, h => by simpa [Rep, WRep] using h
  | .bl _, _, h => by simpa [Rep, WRep] using h
  | .int _, _, h => by simpa [Rep, WRep] using h
  | .str _, _, h => by simpa [Rep, WRep] using h
  | .lst _, _, h => by
    simp only [Rep] at h
    obtain ⟨p, vs, a, b, r⟩ := h
    exact ⟨p, vs, a, s _ _ b, r⟩
  | .tup _, _, h => by
    simp only [Rep] at h
    obtain ⟨p, vs, a, b, r⟩ := h
    exact ⟨p, vs, a, b, r⟩
  | .ins _ _, _, h => by
    simp only [Rep] at h
    obtain ⟨p, dx, gs, a, b, r⟩ := h
    exact ⟨p, dx, gs, a, s _ _ b, r⟩
  | .dct _ _, _, h => by
    simp only [Rep] at h
    obtain ⟨p, a, h⟩ := h
    refine ⟨p, a, ?_⟩
    rcases h with ⟨t, ks, b, r⟩ | ⟨t, ks, b, r⟩
    · exact .inl ⟨t, ks, s _ _ b, r⟩
    · exact .inr ⟨t, ks, s _ _ b, r⟩
  | .scr _, _, h => by simpa [Rep, WRep] using h
  | .cls _, _, h => by simpa [Rep, WRep] using h
/-- .. as a tree of what stands now -/
theorem WRep.rep {c : TC} {G H : Hp} (s : Sub G H) : ∀ {t : PV} {v : V}, WRep c G H t v → Rep c H t v
  | .non, _, h => by simpa [Rep, WRep] using h
  | .bl _, _, h => by simpa [Rep, WRep] using h
  | .int _, _, h => by simpa [Rep, WRep] using h
  | .str _, _, h => by simpa [Rep, WRep] using h
  | .lst _, _, ⟨p, vs, a, b, r⟩ => by simp only [Rep]; exact ⟨p, vs, a, b, r.mono s⟩
  | .tup _, _, ⟨p, vs, a, b, r⟩ => by simp only [Rep]; exact ⟨p, vs, a, s.sqT b, r.mono s⟩
  | .ins _ _, _, ⟨p, dx, gs, a, b, r⟩ => by simp only [Rep]; exact ⟨p, dx, gs, a, b, r.mono s⟩
  | .dct _ _, _, ⟨p, a, h⟩ => by
    simp only [Rep]
    refine ⟨p, a, ?_⟩
    rcases h with ⟨t, ks, b, r⟩ | ⟨t, ks, b, r⟩
    · exact .inl ⟨t, ks, b, r.mono s⟩
    · exact .inr ⟨t, ks, b, r.mono s⟩
  | .scr _, _, ⟨p, a, h⟩ => by simp only [Rep]; exact ⟨p, a, s.sqL h⟩
  | .cls _, _, h => by simpa [Rep, WRep] using h

def OwRep (c : TC) (G H : Hp) (p : Addr) (ad : List Addr) : OS → Prop
  | .lst xs => ad = [p] ∧ ∃ vs, H p = some (.lst vs) ∧ RepL c G xs vs
  | .dct t kvs => ad = [p] ∧ ((t = false ∧ ∃ ks, H p = some (.dK ks) ∧ RepK c G kvs ks) ∨ (t = true ∧ ∃ ks, H p = some (.dT ks) ∧ RepT c G kvs ks))
  | .ins k fs => ad = [p] ∧ ∃ dx gs, H p = some (.ins (c.C k) dx gs) ∧ RepF c G fs gs
  | .boxD great fs => ∃ q, ad = [p, q] ∧ p ≠ q ∧ H q = some (.lst (great.map V.int)) ∧ H p = some (.dK ((Sum.inr "great", V.ref q) :: fs.map fun f => (Sum.inr f.1, V.int f.2)))
  | .boxL great m => ∃ q, ad = [p, q] ∧ p ≠ q ∧ H q = some (.lst (great.map V.int)) ∧ H p = some (.lst [V.ref q, V.int m])
def SlotRep (c : TC) (G H : Hp) (ad : List Addr) : Option Arg → Option V → Prop
  | none, _ => ad = []
  | some (.t t), some v => ad = [] ∧ Rep c G t v
  | some (.t _), none => False
  | some (.ow o), some v => ∃ p, v = .ref p ∧ OwRep c G H p ad o
  | some (.ow _), none => False

theorem OwRep.has {c : TC} {G H : Hp} {p : Addr} {ad : List Addr} : ∀ {o : OS}, OwRep c G H p ad o → ∀ a ∈ ad, ∃ u, H a = some u
  | .lst xs, ⟨e, vs, h, _⟩ => fun a ha => by rw [e] at ha; rw [List.mem_singleton.mp ha]; exact ⟨_, h⟩
  | .dct t kvs, ⟨e, h⟩ => fun a ha => by
    rw [e] at ha; rw [List.mem_singleton.mp ha]
    rcases h with ⟨_, ks, h, _⟩ | ⟨_, ks, h, _⟩ <;> exact ⟨_, h⟩
  | .ins k fs, ⟨e, dx, gs, h, _⟩ => fun a ha => by rw [e] at ha; rw [List.mem_singleton.mp ha]; exact ⟨_, h⟩
  | .boxD great fs, ⟨q, e, _, h1, h2⟩ => fun a ha => by
    rw [e] at ha
    simp at ha
    rcases ha with rfl | rfl
    · exact ⟨_, h2⟩
    · exact ⟨_, h1⟩
  | .boxL great fs, ⟨q, e, _, h1, h2⟩ => fun a ha => by
    rw [e] at ha
    simp at ha
    rcases ha with rfl | rfl
    · exact ⟨_, h2⟩
    · exact ⟨_, h1⟩
/-- an owned object stays where its addresses are kept -/
theorem OwRep.stay {c : TC} {G H G1 H1 : Hp} {p : Addr} {ad : List Addr} (s : Sub G G1) : ∀ {o : OS}, OwRep c G H p ad o → (∀ a ∈ ad, ∀ u, H a = some u → H1 a = some u) → OwRep c G1 H1 p ad o
  | .lst xs, ⟨e, vs, h, r⟩, k => ⟨e, vs, k p (by rw [e]; simp) _ h, r.mono s⟩
  | .dct t kvs, ⟨e, h⟩, k => by
    refine ⟨e, ?_⟩
    rcases h with ⟨t, ks, h, r⟩ | ⟨t, ks, h, r⟩
    · exact .inl ⟨t, ks, k p (by rw [e]; simp) _ h, r.mono s⟩
    · exact .inr ⟨t, ks, k p (by rw [e]; simp) _ h, r.mono s⟩
  | .ins _ fs, ⟨e, dx, gs, h, r⟩, k => ⟨e, dx, gs, k p (by rw [e]; simp) _ h, r.mono s⟩
  | .boxD great fs, ⟨q, e, n, h1, h2⟩, k => ⟨q, e, n, k q (by rw [e]; simp) _ h1, k p (by rw [e]; simp) _ h2⟩
  | .boxL great fs, ⟨q, e, n, h1, h2⟩, k => ⟨q, e, n, k q (by rw [e]; simp) _ h1, k p (by rw [e]; simp) _ h2⟩
theorem SlotRep.has {c : TC} {G H : Hp} {ad : List Addr} : ∀ {s : Option Arg} {v : Option V}, SlotRep c G H ad s v → ∀ a ∈ ad, ∃ u, H a = some u
  | none, _, h => fun a ha => by rw [show ad = [] from h] at ha; cases ha
  | some (.t t), some v, ⟨h, _⟩ => fun a ha => by rw [h] at ha; cases ha
  | some (.ow o), some v, ⟨p, _, h⟩ => h.has
theorem SlotRep.stay {c : TC} {G H G1 H1 : Hp} {ad : List Addr} (s : Sub G G1) : ∀ {sl : Option Arg} {v : Option V}, SlotRep c G H ad sl v → (∀ a ∈ ad, ∀ u, H a = some u → H1 a = some u) → SlotRep c G1 H1 ad sl v
  | none, _, h, _ => h
  | some (.t t), some v, ⟨h, r⟩, _ => ⟨h, r.mono s⟩
  | some (.ow o), some v, ⟨p, e, h⟩, k => ⟨p, e, h.stay s k⟩

/-- where a def's body began: the heaps, the addresses that it may change, the slots that must stay -/
structure Ref where
  H0 : Hp
  G0 : Hp
  A0 : List Addr
  pins : List (Nat × V × List Addr)

structure RS (c : TC) (r : Ref) (ads : Nat → List Addr) (G H : Hp) (σ : L2.St) (env : En) : Prop where
  step : Step r.A0 r.H0 r.G0 H G
  len : env.length = σ.length
  slot : ∀ i, SlotRep c G H (ads i) (env[i]?.join) (σ[i]?.join)
  own : ∀ i a, a ∈ ads i → G a = none ∧ ((i ∈ r.pins.map Prod.fst ∧ a ∈ r.A0) ∨ r.H0 a = none)
  disj : ∀ i j a, a ∈ ads i → a ∈ ads j → i = j
  pin : ∀ q ∈ r.pins, σ[q.1]? = some (some q.2.1) ∧ ads q.1 = q.2.2
section
variable {c : TC} {r : Ref} {ads : Nat → List Addr} {G H G1 H1 : Hp} {σ : L2.St} {env : En}
theorem RS.sub (R : RS c r ads G H σ env) : Sub G H := R.step.sub1
theorem RS.ownSome (R : RS c r ads G H σ env) {i : Nat} {a : Addr} (h : a ∈ ads i) : ∃ u, H a = some u := (R.slot i).has a h
/-- nothing of ours changes -/
theorem RS.next (R : RS c r ads G H σ env) (s : Step [] H G H1 G1) : RS c r ads G1 H1 σ env where
  step := R.step.trans0 s
  len := R.len
  slot := fun i => (R.slot i).stay s.sub fun a _ u e => s.keep a u (by simp) e
  own := fun i a h => by
    refine ⟨?_, (R.own i a h).2⟩
    cases e : G1 a with
    | none => rfl
    | some u =>
      rcases s.new a u e with z | z
      · rw [(R.own i a h).1] at z; cases z
      · obtain ⟨u', e'⟩ := R.ownSome h
        rw [z] at e'; cases e'
  disj := R.disj
  pin := R.pin
end

/-- behind an expression: what was known is known, what no slot owned stands as it stood, owned by none -/
structure Nxt (ads : Nat → List Addr) (G H : Hp) (ads1 : Nat → List Addr) (G1 H1 : Hp) : Prop where
  sub : Sub G G1
  hold : ∀ a o, H a = some o → (∀ j, a ∉ ads j) → H1 a = some o ∧ (∀ j, a ∉ ads1 j) ∧ (G a = none → G1 a = none)
  there : ∀ a, H1 a = none → H a = none
theorem Nxt.refl (ads : Nat → List Addr) (G H : Hp) : Nxt ads G H ads G H := ⟨Sub.refl _, fun _ _ e n => ⟨e, n, id⟩, fun _ e => e⟩
theorem Nxt.trans {ads ads1 ads2 : Nat → List Addr} {G H G1 H1 G2 H2 : Hp} (a : Nxt ads G H ads1 G1 H1) (b : Nxt ads1 G1 H1 ads2 G2 H2) : Nxt ads G H ads2 G2 H2 :=
  ⟨a.sub.trans b.sub, fun x o e n => let z := a.hold x o e n; let y := b.hold x o z.1 z.2.1; ⟨y.1, y.2.1, fun q => y.2.2 (z.2.2 q)⟩, fun x e => a.there x (b.there x e)⟩
theorem Nxt.of {ads : Nat → List Addr} {G H G1 H1 : Hp} (s : Step [] H G H1 G1) : Nxt ads G H ads G1 H1 := ⟨s.sub, fun a o e n => ⟨s.keep a o (by simp) e, n, fun q => by
  cases z : G1 a with
  | none => rfl
  | some u =>
    rcases s.new a u z with y | y
    · rw [q] at y; cases y
    · rw [e] at y; cases y⟩, s.there⟩
/-- one more thing is known, that a slot owned -/
theorem Nxt.know {ads ads1 : Nat → List Addr} {G H : Hp} {p : Addr} {ho : HO} (hp : G p = none) (ow : ∃ j, p ∈ ads j) (h : ∀ j a, a ∈ ads1 j → a ∈ ads j) : Nxt ads G H ads1 (upd G p ho) H := by
  refine ⟨fun a u e => ?_, fun a o e n => ⟨e, fun j m => n j (h j a m), fun q => ?_⟩, fun _ e => e⟩
  · have ne : a ≠ p := fun z => by rw [z, hp] at e; cases e
    rw [upd_ne ne]; exact e
  · have ne : a ≠ p := fun z => by
      obtain ⟨j, m⟩ := ow
      exact n j (by rw [z]; exact m)
    rw [upd_ne ne]; exact q
/-- one more thing is known, that was not there at first -/
theorem Nxt.fresh {ads ads1 : Nat → List Addr} {G H G1 H1 : Hp} (s : Nxt ads G H ads1 G1 H1) {p : Addr} {ho : HO} (hp : G1 p = none) (hn : H p = none) : Nxt ads G H ads1 (upd G1 p ho) H1 := by
  refine ⟨fun a u e => ?_, fun a o e n => ?_, s.there⟩
  · have ne : a ≠ p := fun z => by rw [z] at e; rw [s.sub _ _ e] at hp; cases hp
    rw [upd_ne ne]; exact s.sub _ _ e
  · have ne : a ≠ p := fun z => by rw [z, hn] at e; cases e
    obtain ⟨z1, z2, z3⟩ := s.hold a o e n
    exact ⟨z1, z2, fun q => by rw [upd_ne ne]; exact z3 q⟩
theorem Nxt.less {ads ads1 ads2 : Nat → List Addr} {G H G1 H1 : Hp} (s : Nxt ads G H ads2 G1 H1) (h : ∀ j a, a ∈ ads1 j → a ∈ ads2 j) : Nxt ads G H ads1 G1 H1 :=
  ⟨s.sub, fun a o e n => let z := s.hold a o e n; ⟨z.1, fun j m => z.2.1 j (h j a m), z.2.2⟩, s.there⟩

/-! ### what an expression gives -/
def VRep (c : TC) (σ : L2.St) (G : Hp) : Vl → V → Prop
  | .tr t, v => Rep c G t v
  | .sl i, v => σ[i]? = some (some v)
theorem VRep.mono {c : TC} {σ : L2.St} {G G1 : Hp} (s : Sub G G1) : ∀ {x : Vl} {v : V}, VRep c σ G x v → VRep c σ G1 x v
  | .tr _, _, h => Rep.mono s h
  | .sl _, _, h => h
@[simp] def OS.tree : OS → Option PV
  | .lst xs => some (.lst xs)
  | .dct t kvs => some (.dct t kvs)
  | .ins k fs => some (.ins k fs)
  | _ => none
@[simp] def look (env : En) : Vl → Option PV
  | .tr t => some t
  | .sl i => match env[i]? with
    | some (some (.t t)) => some t
    | some (some (.ow o)) => o.tree
    | _ => none
theorem OwRep.w {c : TC} {G H : Hp} {p : Addr} {ad : List Addr} {t : PV} : ∀ {o : OS}, OwRep c G H p ad o → o.tree = some t → WRep c G H t (.ref p)
  | .lst xs, ⟨_, vs, h, r⟩, e => by cases e; exact ⟨p, vs, rfl, h, r⟩
  | .dct t kvs, ⟨_, h⟩, e => by cases e; exact ⟨p, rfl, h⟩
  | .ins _ fs, ⟨_, dx, gs, h, r⟩, e => by cases e; exact ⟨p, dx, gs, rfl, h, r⟩
theorem look_rep {c : TC} {r : Ref} {ads : Nat → List Addr} {G H : Hp} {σ : L2.St} {env : En} (R : RS c r ads G H σ env) : ∀ {x : Vl} {v : V} {t : PV}, VRep c σ G x v → look env x = some t → WRep c G H t v
  | .tr _, _, _, h, e => by cases e; exact Rep.w R.sub h
  | .sl i, v, t, h, e => by
    have s := R.slot i
    have hv : σ[i]? = some (some v) := h
    rw [hv] at s
    simp only [look] at e
    cases q : env[i]? with
    | none => rw [q] at e; cases e
    | some o =>
      rw [q] at e s
      cases o with
      | none => cases e
      | some a =>
        cases a with
        | t t' =>
          cases e
          exact Rep.w R.sub s.2
        | ow o =>
          obtain ⟨p, z, s⟩ := s
          cases z
          exact s.w e

/-! ### readings -/
abbrev EvE := En → RE Vl
abbrev EvT := En → RE Bool
abbrev EvA := En → RE (List Vl)
def VReps (c : TC) (σ : L2.St) (G : Hp) : List Vl → List V → Prop
  | [], vs => vs = []
  | x :: xs, vs => ∃ v r, vs = v :: r ∧ VRep c σ G x v ∧ VReps c σ G xs r
/-- an exception as it lies: its class, its own dict -/
def RepX (c : TC) (G : Hp) (x : EX) (cls : Value) (d : Option Addr) (H : Hp) : Prop :=
  cls = .ref (c.C x.k) ∧ ((x.fs = [] ∧ d = none) ∨ ∃ dx gs, d = some dx ∧ G dx = some (.xd gs) ∧ RepF c G x.fs gs)
def XC (c : TC) (r : Ref) (W : WX) (G : Hp) (σ : L2.St) (x : EX) (env' : En) : Prop :=
  ∀ ads' G' H' cls d, RS c r ads' G' H' σ env' → Sub G G' → RepX c G' x cls d H' → W cls d σ H'
def TEof (c : TC) (r : Ref) (W : WX) (ev : EvE) : TE := fun σ H Q => ∃ ads G env, RS c r ads G H σ env ∧
  (ev env).Sat (fun x env' => ∀ ads' G' H' v, RS c r ads' G' H' σ env' → Nxt ads G H ads' G' H' → VRep c σ G' x v → Q v H') (XC c r W G σ)
def TTof (c : TC) (r : Ref) (W : WX) (ev : EvT) : TT := fun σ H Q => ∃ ads G env, RS c r ads G H σ env ∧
  (ev env).Sat (fun x env' => ∀ ads' G' H', RS c r ads' G' H' σ env' → Nxt ads G H ads' G' H' → Q x H') (XC c r W G σ)
def TAof (c : TC) (r : Ref) (W : WX) (ev : EvA) : TA := fun σ H Q => ∃ ads G env, RS c r ads G H σ env ∧
  (ev env).Sat (fun xs env' => ∀ ads' G' H' vs, RS c r ads' G' H' σ env' → Nxt ads G H ads' G' H' → VReps c σ G' xs vs → Q vs H') (XC c r W G σ)
theorem XC.weak {c : TC} {r : Ref} {W : WX} {G G1 : Hp} {σ : L2.St} {x : EX} {e : En} (h : XC c r W G σ x e) (s : Sub G G1) : XC c r W G1 σ x e :=
  fun ads' G' H' cls d R s' p => h ads' G' H' cls d R (s.trans s') p

section
variable {X : Cx}
theorem PE.imp {e : Expr} {t t' : TE} (h : PE X e t) (i : ∀ σ H Q, t' σ H Q → t σ H Q) : PE X e t' := ⟨fun pins s σ H Q I q => h.run pins s σ H Q I (i σ H Q q)⟩
theorem PT.imp {e : Expr} {t t' : TT} (h : PT X e t) (i : ∀ σ H Q, t' σ H Q → t σ H Q) : PT X e t' := ⟨fun pins s σ H Q I q => h.run pins s σ H Q I (i σ H Q q)⟩
theorem PW.imp {e : Expr} {t t' : TT} (h : PW X e t) (i : ∀ σ H Q, t' σ H Q → t σ H Q) : PW X e t' := ⟨fun w pins s σ H Q I q => h.run w pins s σ H Q I (i σ H Q q)⟩
theorem PA.imp {es : List Expr} {t t' : TA} (h : PA X es t) (i : ∀ σ H Q, t' σ H Q → t σ H Q) : PA X es t' := ⟨fun pos pins s σ H Q I q => h.run pos pins s σ H Q I (i σ H Q q)⟩
theorem PS.imp {st : Stmt} {t t' : TS} (h : PS X st t) (i : ∀ D σ H, t' D σ H → t D σ H) : PS X st t' := ⟨fun pins s σ H D I q => h.run pins s σ H D I (i D σ H q)⟩
theorem PSs.imp {st : List Stmt} {t t' : TS} (h : PSs X st t) (i : ∀ D σ H, t' D σ H → t D σ H) : PSs X st t' := ⟨fun pins s σ H D I q => h.run pins s σ H D I (i D σ H q)⟩
end

/-! ### names, constants -/
@[simp] def eVar (i : Nat) : EvE := fun env => match env[i]? with
  | some (some (.t t)) => .ok (.tr t) env
  | some (some (.ow _)) => .ok (.sl i) env
  | _ => .bad
@[simp] def eCon (t : PV) : EvE := fun env => .ok (.tr t) env
section
variable {X : Cx} {c : TC} {r : Ref} {W : WX}
theorem pt_var {i : Nat} {e : Expr} (h : PE X e (tVar i)) : PE X e (TEof c r W (eVar i)) := PE.imp h fun σ H Q ⟨ads, G, env, R, h⟩ => by
  have s := R.slot i
  simp only [eVar] at h
  cases q : env[i]? with
  | none => rw [q] at h; exact h.elim
  | some o =>
    rw [q] at h s
    cases o with
    | none => exact h.elim
    | some a =>
      cases a with
      | t t =>
        cases z : σ[i]?.join with
        | none => rw [z] at s; exact (show False from s).elim
        | some v =>
          rw [z] at s
          exact ⟨v, Option.join_eq_some_iff.mp z, h ads G H v R (Nxt.refl _ _ _) s.2⟩
      | ow o =>
        cases z : σ[i]?.join with
        | none => rw [z] at s; exact (show False from s).elim
        | some v =>
          have z' : σ[i]? = some (some v) := Option.join_eq_some_iff.mp z
          exact ⟨v, z', h ads G H v R (Nxt.refl _ _ _) z'⟩
theorem pt_con {t : PV} {v : V} {e : Expr} (h : PE X e (tC v)) (hr : ∀ G, Rep c G t v) : PE X e (TEof c r W (eCon t)) := PE.imp h fun σ H Q ⟨ads, G, env, R, h⟩ =>
  h ads G H v R (Nxt.refl _ _ _) (hr G)
theorem pt_int {i : Int} {j pos} : PE X (.Constant (.int i) j pos) (TEof c r W (eCon (.int i))) := pt_con pe_int fun _ => by simp [Rep]
theorem pt_bl {b : Bool} {j pos} : PE X (.Constant (.bool b) j pos) (TEof c r W (eCon (.bl b))) := pt_con pe_bl fun _ => by simp [Rep]
theorem pt_non {j pos} : PE X (.Constant .none j pos) (TEof c r W (eCon .non)) := pt_con pe_non fun _ => by simp [Rep]
theorem pt_str {x : Str} {j pos} (h : (decide (x.length ≤ sizeLine) && PyData.strOk x) = true := by decide +kernel) : PE X (.Constant (.str x) j pos) (TEof c r W (eCon (.str x))) := pt_con pe_str fun _ => by
  rw [Bool.and_eq_true, decide_eq_true_eq] at h
  simp only [Rep]; exact ⟨trivial, h⟩
end

/-! ### operators, by values -/
/-- what a value-operation may end with -/
def VOut (c : TC) (G H : Hp) (t : PV) (Q : VK) : Prop := ∀ v H' G', Step [] H G H' G' → Rep c G' t v → Q v H'
def rAny2 (X : Cx) (g : Value → Value → Sem Value) : R2 := fun x y H Q => ∃ r, OpR X g r ∧ r x y H Q
theorem opAny {X : Cx} {g : Value → Value → Sem Value} : OpR X g (rAny2 X g) := fun pins s σ H x y v u Q I r1 r2 ⟨r, h, q⟩ => h pins s σ H x y v u Q I r1 r2 q
def OpP (X : Cx) (c : TC) (g : Value → Value → Sem Value) (f : PV → PV → Option PV) : Prop :=
  ∀ G H t1 t2 t v1 v2 Q, f t1 t2 = some t → Sub G H → WRep c G H t1 v1 → WRep c G H t2 v2 → VOut c G H t Q → rAny2 X g v1 v2 H Q
def rAny1 (X : Cx) (g : Value → Sem Value) : V → Hp → VK → Prop := fun x H Q => ∃ r, UnR X g r ∧ r x H Q
theorem unAny {X : Cx} {g : Value → Sem Value} : UnR X g (rAny1 X g) := fun pins s σ H x v Q I r1 ⟨r, h, q⟩ => h pins s σ H x v Q I r1 q
def UnP (X : Cx) (c : TC) (g : Value → Sem Value) (f : PV → Option PV) : Prop :=
  ∀ G H t1 t v1 Q, f t1 = some t → Sub G H → WRep c G H t1 v1 → VOut c G H t Q → rAny1 X g v1 H Q
def CallP (X : Cx) (c : TC) (g : Value) (f : List PV → Option PV) : Prop :=
  ∀ G H ts t vs Q, f ts = some t → Sub G H → Paired (WRep c G H) ts vs → VOut c G H t Q → ∃ r, CallR X g r ∧ r vs H Q
def MtP (X : Cx) (c : TC) (id : String) (f : PV → List PV → Option PV) : Prop :=
  ∀ G H t0 ts t v0 vs Q, f t0 ts = some t → Sub G H → WRep c G H t0 v0 → Paired (WRep c G H) ts vs → VOut c G H t Q → ∃ r, MtR X id r ∧ r v0 vs H Q

@[simp] def eBin (f : PV → PV → Option PV) (ea eb : EvE) : EvE := fun env => (ea env).bind fun a e1 => (eb e1).bind fun b e2 =>
  match look e2 a, look e2 b with
  | some x, some y => (ofO (f x y) e2).bind fun t e => .ok (.tr t) e
  | _, _ => .bad
section
variable {X : Cx} {c : TC} {r : Ref} {W : WX} {a b : Expr} {ea eb : EvE} {pos : Pos}
theorem bin_imp {g : Value → Value → Sem Value} {f : PV → PV → Option PV} (ho : OpP X c g f) {σ : L2.St} {H : Hp} {Q : VK} (h : TEof c r W (eBin f ea eb) σ H Q) : tOp (rAny2 X g) (TEof c r W ea) (TEof c r W eb) σ H Q := by
  obtain ⟨ads, G, env, R, h⟩ := h
  refine ⟨ads, G, env, R, Sat_mono (Sat_bind.mp h) (fun x e1 h1 ads1 G1 H1 v1 R1 s1 p1 => ?_) fun _ _ z => z⟩
  refine ⟨ads1, G1, e1, R1, Sat_mono (Sat_bind.mp h1) (fun y e2 h2 ads2 G2 H2 v2 R2 s2 p2 => ?_) fun x e z => z.weak s1.sub⟩
  cases q1 : look e2 x with
  | none => rw [q1] at h2; exact h2.elim
  | some t1 =>
    rw [q1] at h2
    cases q2 : look e2 y with
    | none => rw [q2] at h2; exact h2.elim
    | some t2 =>
      rw [q2] at h2
      obtain ⟨t, ht, h2⟩ := Sat_ofO.mp (Sat_bind.mp h2)
      exact ho G2 H2 t1 t2 t v1 v2 Q ht R2.sub (look_rep R2 (p1.mono s2.sub) q1) (look_rep R2 p2 q2) fun v H' G' st p => h2 ads2 G' H' v (R2.next st) ((s1.trans s2).trans (Nxt.of st)) p
theorem pt_bin {op : Operator} {f : PV → PV → Option PV} (ho : OpP X c (binaryOp op) f) (ha : PE X a (TEof c r W ea)) (hb : PE X b (TEof c r W eb)) : PE X (.BinOp a op b pos) (TEof c r W (eBin f ea eb)) :=
  PE.imp (pe_op opAny ha hb) fun _ _ _ h => bin_imp ho h
theorem pt_cmp {op : CmpOp} {f : PV → PV → Option PV} (ho : OpP X c (compareOp op) f) (ha : PE X a (TEof c r W ea)) (hb : PE X b (TEof c r W eb)) (hm : behindInMarks op b = false) : PE X (.Compare a [op] [b] pos) (TEof c r W (eBin f ea eb)) :=
  PE.imp (pe_cmpR opAny ha hb hm) fun _ _ _ h => bin_imp ho h
@[simp] def eUn (f : PV → Option PV) (ea : EvE) : EvE := fun env => (ea env).bind fun a e1 =>
  match look e1 a with
  | some x => (ofO (f x) e1).bind fun t e => .ok (.tr t) e
  | _ => .bad
theorem pt_un {op : UnaryOp} {f : PV → Option PV} (ho : UnP X c (unaryOp op) f) (ha : PE X a (TEof c r W ea)) : PE X (.UnaryOp op a pos) (TEof c r W (eUn f ea)) :=
  PE.imp (pe_un unAny ha) fun σ H Q ⟨ads, G, env, R, h⟩ => by
    refine ⟨ads, G, env, R, Sat_mono (Sat_bind.mp h) (fun x e1 h1 ads1 G1 H1 v1 R1 s1 p1 => ?_) fun _ _ z => z⟩
    cases q1 : look e1 x with
    | none => rw [q1] at h1; exact h1.elim
    | some t1 =>
      rw [q1] at h1
      obtain ⟨t, ht, h2⟩ := Sat_ofO.mp (Sat_bind.mp h1)
      exact ho G1 H1 t1 t v1 Q ht R1.sub (look_rep R1 p1 q1) fun v H' G' st p => h2 ads1 G' H' v (R1.next st) (s1.trans (Nxt.of st)) p
end
end TreeL
end
section
/-! TL3: what changes the state (RS.set, write, freeze); truth, tests, and, or, conditional expressions, displays, arguments. -/
namespace TreeL
open PySem PySem.Spec PyProof.Rows L2

section
variable {c : TC} {r : Ref} {ads : Nat → List Addr} {G H : Hp} {σ : L2.St} {env : En}
theorem join_set_self {α : Type} {l : List (Option α)} {i : Nat} {x : Option α} (h : i < l.length) : (l.set i x)[i]?.join = x := by
  rw [List.getElem?_set_self h]; rfl
theorem join_set_ne {α : Type} {l : List (Option α)} {i j : Nat} {x : Option α} (h : i ≠ j) : (l.set i x)[j]?.join = l[j]?.join := by
  rw [List.getElem?_set_ne h]
theorem set_out {α : Type} {l : List α} {i : Nat} {x : α} (h : ¬ i < l.length) : l.set i x = l := List.set_eq_of_length_le (Nat.le_of_not_lt h)
/-- a tree is stored in a slot -/
theorem RS.set (R : RS c r ads G H σ env) {i : Nat} {t : PV} {v : V} (h : Rep c G t v) (hp : (r.pins.map Prod.fst).contains i = false) :
    RS c r (fun j => if j = i then [] else ads j) G H (σ.set i (some v)) (env.set i (some (.t t))) where
  step := R.step
  len := by simp [R.len]
  slot := fun j => by
    by_cases z : j = i
    · subst z
      by_cases lt : j < env.length
      · rw [join_set_self lt, join_set_self (by rw [← R.len]; exact lt), if_pos rfl]
        exact ⟨rfl, h⟩
      · rw [set_out lt, set_out (by rw [← R.len]; exact lt), if_pos rfl, List.getElem?_eq_none (Nat.le_of_not_lt lt)]
        exact rfl
    · rw [join_set_ne (Ne.symm z), join_set_ne (Ne.symm z), if_neg z]
      exact R.slot j
  own := fun j a ha => by
    by_cases z : j = i
    · rw [if_pos z] at ha; cases ha
    · rw [if_neg z] at ha; exact R.own j a ha
  disj := fun j k a ha hb => by
    by_cases z : j = i
    · rw [if_pos z] at ha; cases ha
    · rw [if_neg z] at ha
      by_cases z' : k = i
      · rw [if_pos z'] at hb; cases hb
      · rw [if_neg z'] at hb; exact R.disj j k a ha hb
  pin := fun q hq => by
    have ne : q.1 ≠ i := fun e => by
      have m : (r.pins.map Prod.fst).contains i = true := List.contains_iff_mem.mpr (by rw [← e]; exact List.mem_map_of_mem hq)
      rw [hp] at m; cases m
    rw [List.getElem?_set_ne (Ne.symm ne), if_neg ne]
    exact R.pin q hq
/-- a slot is forgotten -/
theorem RS.wipe (R : RS c r ads G H σ env) {i : Nat} (hp : (r.pins.map Prod.fst).contains i = false) :
    RS c r (fun j => if j = i then [] else ads j) G H (σ.set i none) (env.set i none) where
  step := R.step
  len := by simp [R.len]
  slot := fun j => by
    by_cases z : j = i
    · subst z
      by_cases lt : j < env.length
      · rw [join_set_self lt, if_pos rfl]
        exact rfl
      · rw [set_out lt, if_pos rfl, List.getElem?_eq_none (Nat.le_of_not_lt lt)]
        exact rfl
    · rw [join_set_ne (Ne.symm z), join_set_ne (Ne.symm z), if_neg z]
      exact R.slot j
  own := fun j a ha => by
    by_cases z : j = i
    · rw [if_pos z] at ha; cases ha
    · rw [if_neg z] at ha; exact R.own j a ha
  disj := fun j k a ha hb => by
    by_cases z : j = i
    · rw [if_pos z] at ha; cases ha
    · rw [if_neg z] at ha
      by_cases z' : k = i
      · rw [if_pos z'] at hb; cases hb
      · rw [if_neg z'] at hb; exact R.disj j k a ha hb
  pin := fun q hq => by
    have ne : q.1 ≠ i := fun e => by
      have m : (r.pins.map Prod.fst).contains i = true := List.contains_iff_mem.mpr (by rw [← e]; exact List.mem_map_of_mem hq)
      rw [hp] at m; cases m
    rw [List.getElem?_set_ne (Ne.symm ne), if_neg ne]
    exact R.pin q hq
/-- a new object of our own is stored in a slot (it stands already: Step.allocO) -/
theorem RS.setOwn (R : RS c r ads G H σ env) {i : Nat} {p : Addr} {ad : List Addr} {o : OS} (h : OwRep c G H p ad o) (hn : ∀ a ∈ ad, G a = none ∧ r.H0 a = none ∧ ∀ j, a ∉ ads j) (hp : (r.pins.map Prod.fst).contains i = false) (hi : i < env.length) :
    RS c r (fun j => if j = i then ad else ads j) G H (σ.set i (some (.ref p))) (env.set i (some (.ow o))) where
  step := R.step
  len := by simp [R.len]
  slot := fun j => by
    by_cases z : j = i
    · subst z
      rw [join_set_self hi, join_set_self (by rw [← R.len]; exact hi), if_pos rfl]
      exact ⟨p, rfl, h⟩
    · rw [join_set_ne (Ne.symm z), join_set_ne (Ne.symm z), if_neg z]
      exact R.slot j
  own := fun j a ha => by
    by_cases z : j = i
    · rw [if_pos z] at ha; exact ⟨(hn a ha).1, .inr (hn a ha).2.1⟩
    · rw [if_neg z] at ha; exact R.own j a ha
  disj := fun j k a ha hb => by
    by_cases z : j = i
    · rw [if_pos z] at ha
      by_cases z' : k = i
      · rw [z, z']
      · rw [if_neg z'] at hb; exact absurd hb ((hn a ha).2.2 k)
    · rw [if_neg z] at ha
      by_cases z' : k = i
      · rw [if_pos z'] at hb; exact absurd ha ((hn a hb).2.2 j)
      · rw [if_neg z'] at hb; exact R.disj j k a ha hb
  pin := fun q hq => by
    have ne : q.1 ≠ i := fun e => by
      have m : (r.pins.map Prod.fst).contains i = true := List.contains_iff_mem.mpr (by rw [← e]; exact List.mem_map_of_mem hq)
      rw [hp] at m; cases m
    rw [List.getElem?_set_ne (Ne.symm ne), if_neg ne]
    exact R.pin q hq
/-- the object of a slot is written -/
theorem RS.write (R : RS c r ads G H σ env) {i : Nat} {p a : Addr} {o : OS} {ho ho' : HO} (hs : σ[i]? = some (some (.ref p))) (ha : a ∈ ads i) (hH : H a = some ho) (h : OwRep c G (upd H a ho') p (ads i) o) :
    RS c r ads G (upd H a ho') σ (env.set i (some (.ow o))) where
  step := R.step.trans (Step.write R.sub (R.own i a ha).1 hH) fun x hx => by
    rw [List.mem_singleton.mp hx]
    rcases (R.own i a ha).2 with z | z
    · exact .inl z.2
    · exact .inr z
  len := by simp [R.len]
  slot := fun j => by
    have li : i < σ.length := (List.getElem?_eq_some_iff.mp hs).1
    by_cases z : j = i
    · subst z
      rw [join_set_self (by rw [R.len]; exact li), hs]
      exact ⟨p, rfl, h⟩
    · rw [join_set_ne (Ne.symm z)]
      refine (R.slot j).stay (Sub.refl _) fun b hb u e => ?_
      have ne : b ≠ a := fun q => z (R.disj j i a (by rw [← q]; exact hb) ha)
      rw [upd_ne ne]; exact e
  own := R.own
  disj := R.disj
  pin := R.pin
/-- the object of a slot becomes a tree -/
theorem RS.freeze (R : RS c r ads G H σ env) {i : Nat} {v : V} {o : OS} {t : PV} (hs : σ[i]? = some (some v)) (he : env[i]? = some (some (.ow o))) (ht : o.tree = some t) (hp : (r.pins.map Prod.fst).contains i = false) :
    ∃ G', Nxt ads G H (fun j => if j = i then [] else ads j) G' H ∧ Rep c G' t v ∧ RS c r (fun j => if j = i then [] else ads j) G' H σ (env.set i (some (.t t))) := by
  have s := R.slot i
  rw [hs, he] at s
  obtain ⟨p, rfl, s⟩ := s
  have w := s.w ht
  obtain ⟨ho, hH, had⟩ : ∃ ho, H p = some ho ∧ ads i = [p] := by
    cases o with
    | lst xs => exact ⟨_, s.2.choose_spec.1, s.1⟩
    | dct t kvs =>
      obtain ⟨e, h⟩ := s
      rcases h with ⟨_, ks, h, _⟩ | ⟨_, ks, h, _⟩ <;> exact ⟨_, h, e⟩
    | ins k fs =>
      obtain ⟨e, dx, gs, h, _⟩ := s
      exact ⟨_, h, e⟩
    | boxD _ _ => cases ht
    | boxL _ _ => cases ht
  have hpi : p ∈ ads i := by rw [had]; exact List.mem_singleton.mpr rfl
  have hG := (R.own i p hpi).1
  have hni : ¬ i ∈ r.pins.map Prod.fst := fun m => by rw [List.contains_iff_mem.mpr m] at hp; cases hp
  have hH0 : r.H0 p = none := by
    rcases (R.own i p hpi).2 with z | z
    · exact absurd z.1 hni
    · exact z
  obtain ⟨s1, s2⟩ := Step.freeze R.sub hG hH
  have li : i < σ.length := (List.getElem?_eq_some_iff.mp hs).1
  have hrep : Rep c (upd G p ho) t (.ref p) := by
    cases o with
    | lst xs =>
      cases ht
      obtain ⟨_, vs, h, rr⟩ := s
      rw [hH] at h; cases h
      simp only [Rep]
      exact ⟨p, vs, rfl, upd_same, rr.mono s1⟩
    | dct t kvs =>
      cases ht
      obtain ⟨_, h⟩ := s
      simp only [Rep]
      refine ⟨p, rfl, ?_⟩
      rcases h with ⟨z, ks, h, rr⟩ | ⟨z, ks, h, rr⟩
      · rw [hH] at h; cases h; exact .inl ⟨z, ks, upd_same, rr.mono s1⟩
      · rw [hH] at h; cases h; exact .inr ⟨z, ks, upd_same, rr.mono s1⟩
    | ins k fs =>
      cases ht
      obtain ⟨_, dx, gs, h, rr⟩ := s
      rw [hH] at h; cases h
      simp only [Rep]
      exact ⟨p, dx, gs, rfl, upd_same, rr.mono s1⟩
    | boxD _ _ => cases ht
    | boxL _ _ => cases ht
  refine ⟨upd G p ho, Nxt.know hG ⟨i, hpi⟩ (fun j a m => by by_cases q : j = i <;> simp [q] at m ⊢; exact m), hrep, ⟨⟨R.step.sub.trans s1, s2, fun a u e => ?_, R.step.keep, R.step.there⟩, by simp [R.len], fun j => ?_, fun j a ha => ?_, fun j k a ha hb => ?_, fun q hq => ?_⟩⟩
  · by_cases z : a = p
    · rw [z]; exact .inr hH0
    · rw [upd_ne z] at e; exact R.step.new a u e
  · by_cases z : j = i
    · subst z
      rw [join_set_self (by rw [R.len]; exact li), if_pos rfl, hs]
      exact ⟨rfl, hrep⟩
    · rw [join_set_ne (Ne.symm z), if_neg z]
      exact (R.slot j).stay s1 fun _ _ _ e => e
  · by_cases z : j = i
    · rw [if_pos z] at ha; cases ha
    · rw [if_neg z] at ha
      refine ⟨?_, (R.own j a ha).2⟩
      have ne : a ≠ p := fun q => z (R.disj j i p (by rw [← q]; exact ha) hpi)
      rw [upd_ne ne]
      exact (R.own j a ha).1
  · by_cases z : j = i
    · rw [if_pos z] at ha; cases ha
    · rw [if_neg z] at ha
      by_cases z' : k = i
      · rw [if_pos z'] at hb; cases hb
      · rw [if_neg z'] at hb; exact R.disj j k a ha hb
  · have ne : q.1 ≠ i := fun e => hni (by rw [← e]; exact List.mem_map_of_mem hq)
    rw [if_neg ne]
    exact R.pin q hq
end

/-! ### freezing an expression's value -/
def frz (x : Vl) (env : En) : RE Vl := match x with
  | .tr t => .ok (.tr t) env
  | .sl i => match env[i]? with
    | some (some (.t t)) => .ok (.tr t) env
    | some (some (.ow o)) => (match o.tree with
      | some t => .ok (.tr t) (env.set i (some (.t t)))
      | none => .bad)
    | _ => .bad
@[simp] def eFrz (pn : List Nat) (ea : EvE) : EvE := fun env => (ea env).bind fun x e => match x with
  | .tr t => .ok (.tr t) e
  | .sl i => if pn.contains i then .bad else frz (.sl i) e
theorem frz_ok {c : TC} {r : Ref} {ads : Nat → List Addr} {G H : Hp} {σ : L2.St} {env : En} (R : RS c r ads G H σ env) {i : Nat} {v : V} (hv : σ[i]? = some (some v)) (hp : (r.pins.map Prod.fst).contains i = false)
    {P : Vl → En → Prop} {W : EX → En → Prop} (h : (frz (.sl i) env).Sat P W) : ∃ t e ads' G', P (.tr t) e ∧ Nxt ads G H ads' G' H ∧ Rep c G' t v ∧ RS c r ads' G' H σ e := by
  simp only [frz] at h
  cases q : env[i]? with
  | none => rw [q] at h; exact h.elim
  | some o =>
    rw [q] at h
    cases o with
    | none => exact h.elim
    | some a =>
      cases a with
      | t t =>
        have s := R.slot i
        rw [hv, q] at s
        exact ⟨t, env, ads, G, h, Nxt.refl _ _ _, s.2, R⟩
      | ow o =>
        cases z : o.tree with
        | none => simp only [z] at h; exact h.elim
        | some t =>
          simp only [z] at h
          obtain ⟨G', s, p, R'⟩ := R.freeze hv q z hp
          exact ⟨t, _, _, G', h, s, p, R'⟩
section
variable {X : Cx} {c : TC} {r : Ref} {W : WX} {a b e : Expr} {es rest : List Expr} {ea eb : EvE} {et eu : EvT} {el : EvA} {pos p : Pos}
theorem pt_frz {pn : List Nat} (hp : r.pins.map Prod.fst = pn) (ha : PE X a (TEof c r W ea)) : PE X a (TEof c r W (eFrz pn ea)) := PE.imp ha fun σ H Q ⟨ads, G, env, R, h⟩ => by
  refine ⟨ads, G, env, R, Sat_mono (Sat_bind.mp h) (fun x e1 h1 ads1 G1 H1 v1 R1 s1 p1 => ?_) fun _ _ z => z⟩
  cases x with
  | tr t => exact h1 ads1 G1 H1 v1 R1 s1 p1
  | sl i =>
    have h1' : (if pn.contains i then RE.bad else frz (.sl i) e1).Sat (fun x env' => ∀ ads' G' H' v, RS c r ads' G' H' σ env' → Nxt ads G H ads' G' H' → VRep c σ G' x v → Q v H') (XC c r W G σ) := h1
    cases q : pn.contains i with
    | true => rw [if_pos q] at h1'; exact h1'.elim
    | false =>
      rw [if_neg (by rw [q]; exact Bool.false_ne_true)] at h1'
      obtain ⟨t, e, ads', G', hP, s, pr, R'⟩ := frz_ok R1 (show σ[i]? = some (some v1) from p1) (by rw [hp]; exact q) h1'
      exact hP ads' G' H1 v1 R' (s1.trans s) pr

/-! ### arguments, displays -/
@[simp] def aNil : EvA := fun env => .ok [] env
@[simp] def aCons (ea : EvE) (el : EvA) : EvA := fun env => (ea env).bind fun x e1 => (el e1).bind fun xs e2 => .ok (x :: xs) e2
/-- *xs in front -/
@[simp] def aStar (ea : EvE) (el : EvA) : EvA := fun env => (ea env).bind fun x e1 => match look e1 x with
  | some (.lst ts) => (el e1).bind fun xs e2 => .ok (ts.map Vl.tr ++ xs) e2
  | some (.tup ts) => (el e1).bind fun xs e2 => .ok (ts.map Vl.tr ++ xs) e2
  | _ => .bad
theorem ta_nil : PA X [] (TAof c r W aNil) := PA.imp pa_nil fun σ H Q ⟨ads, G, env, R, h⟩ => h ads G H [] R (Nxt.refl _ _ _) rfl
theorem VReps.mono {σ : L2.St} {G G1 : Hp} (s : Sub G G1) : ∀ {xs : List Vl} {vs : List V}, VReps c σ G xs vs → VReps c σ G1 xs vs
  | [], _, h => h
  | _ :: _, _, ⟨v, r, e, h, t⟩ => ⟨v, r, e, h.mono s, VReps.mono s t⟩
theorem ta_cons (ha : PE X e (TEof c r W ea)) (hr : PA X es (TAof c r W el)) (hs : starEach (e :: es) X.env = (false, eval e X.env) :: starEach es X.env := by rfl) : PA X (e :: es) (TAof c r W (aCons ea el)) :=
  PA.imp (pa_cons ha hr hs) fun σ H Q ⟨ads, G, env, R, h⟩ => by
    refine ⟨ads, G, env, R, Sat_mono (Sat_bind.mp h) (fun x e1 h1 ads1 G1 H1 v1 R1 s1 p1 => ?_) fun _ _ z => z⟩
    refine ⟨ads1, G1, e1, R1, Sat_mono (Sat_bind.mp h1) (fun xs e2 h2 ads2 G2 H2 v2 R2 s2 p2 => ?_) fun x e z => z.weak s1.sub⟩
    exact h2 ads2 G2 H2 (v1 :: v2) R2 (s1.trans s2) ⟨v1, v2, rfl, p1.mono s2.sub, p2⟩
theorem VReps.trs {σ : L2.St} {G : Hp} : ∀ {ts : List PV} {vs : List V}, RepL c G ts vs → VReps c σ G (ts.map Vl.tr) vs
  | [], _, h => h
  | _ :: _, _, ⟨v, r, e, h, t⟩ => ⟨v, r, e, h, VReps.trs t⟩
theorem VReps.append {σ : L2.St} {G : Hp} : ∀ {xs ys : List Vl} {vs ws : List V}, VReps c σ G xs vs → VReps c σ G ys ws → VReps c σ G (xs ++ ys) (vs ++ ws)
  | [], _, _, _, h, h' => by cases h; exact h'
  | _ :: _, _, _, _, ⟨v, r, e, h, t⟩, h' => by subst e; exact ⟨v, r ++ _, rfl, h, VReps.append t h'⟩
theorem ta_star (hK : X.K = c.K) (ha : PE X e (TEof c r W ea)) (hr : PA X es (TAof c r W el)) (hs : starEach (.Starred e p :: es) X.env = (true, eval e X.env) :: starEach es X.env := by rfl) : PA X (.Starred e p :: es) (TAof c r W (aStar ea el)) :=
  PA.imp (StX.pa_star ha hr hs) fun σ H Q ⟨ads, G, env, R, h⟩ => by
    refine ⟨ads, G, env, R, Sat_mono (Sat_bind.mp h) (fun x e1 h1 ads1 G1 H1 v1 R1 s1 p1 => ?_) fun _ _ z => z⟩
    cases q : look e1 x with
    | none => simp only [q] at h1; exact h1.elim
    | some t =>
      have w := look_rep R1 p1 q
      cases t with
      | lst ts =>
        simp only [q] at h1
        obtain ⟨a, vs, rfl, hx, rr⟩ := w
        refine ⟨a, vs, rfl, .inr (by rw [hK]; exact .inl (.inl hx)), ads1, G1, e1, R1, Sat_mono (Sat_bind.mp h1) (fun xs e2 h2 ads2 G2 H2 v2 R2 s2 p2 => ?_) fun x e z => z.weak s1.sub⟩
        exact h2 ads2 G2 H2 (vs ++ v2) R2 (s1.trans s2) (VReps.append (VReps.trs (rr.mono s2.sub)) p2)
      | tup ts =>
        simp only [q] at h1
        obtain ⟨a, vs, rfl, hx, rr⟩ := w
        refine ⟨a, vs, rfl, .inl (by rw [hK]; exact R1.sub.sqT hx), ads1, G1, e1, R1, Sat_mono (Sat_bind.mp h1) (fun xs e2 h2 ads2 G2 H2 v2 R2 s2 p2 => ?_) fun x e z => z.weak s1.sub⟩
        exact h2 ads2 G2 H2 (vs ++ v2) R2 (s1.trans s2) (VReps.append (VReps.trs (rr.mono s2.sub)) p2)
      | _ => simp only [q] at h1; exact h1.elim
@[simp] def trees : List Vl → Option (List PV)
  | [] => some []
  | .tr t :: r => (trees r).map (t :: ·)
  | .sl _ :: _ => none
theorem trees_rep {σ : L2.St} {G : Hp} : ∀ {xs : List Vl} {vs : List V} {ts : List PV}, VReps c σ G xs vs → trees xs = some ts → RepL c G ts vs
  | [], _, _, h, e => by cases e; exact h
  | .tr t :: xs, _, ts, ⟨v, r, a, h, d⟩, e => by
    subst a
    simp only [trees] at e
    cases q : trees xs with
    | none => rw [q] at e; cases e
    | some us =>
      rw [q] at e
      cases e
      exact ⟨v, r, rfl, h, trees_rep d q⟩
  | .sl _ :: _, _, _, _, e => by cases e
/-- the most items of a display, of a joined list -/
def LIM : Nat := 1000000
theorem lim_line {n : Nat} (h : n ≤ LIM) : n ≤ sizeLine := Nat.le_trans h (by decide)
@[simp] def eTup (el : EvA) : EvE := fun env => (el env).bind fun xs e => match trees xs with
  | some ts => if ts.length ≤ LIM then .ok (.tr (.tup ts)) e else .bad
  | none => .bad
@[simp] def eLst (el : EvA) : EvE := fun env => (el env).bind fun xs e => match trees xs with
  | some ts => if ts.length ≤ LIM then .ok (.tr (.lst ts)) e else .bad
  | none => .bad
theorem pt_tup {x1} (h : PA X es (TAof c r W el)) : PE X (.Tuple es x1 pos) (TEof c r W (eTup el)) := PE.imp (pe_tup h) fun σ H Q ⟨ads, G, env, R, h⟩ => by
  refine ⟨ads, G, env, R, Sat_mono (Sat_bind.mp h) (fun xs e1 h1 ads1 G1 H1 v1 R1 s1 p1 => ?_) fun _ _ z => z⟩
  cases q : trees xs with
  | none => simp only [q] at h1; exact h1.elim
  | some ts =>
    simp only [q] at h1
    by_cases hl : ts.length ≤ LIM
    · rw [if_pos hl] at h1
      have rr := trees_rep p1 q
      refine ⟨by rw [rr.length]; exact lim_line hl, fun a ha => ?_⟩
      have st := Step.alloc (o := .tup v1) R1.sub ha
      refine h1 ads1 _ _ _ (R1.next st) (s1.trans (Nxt.of st)) ?_
      simp only [VRep, Rep]
      exact ⟨a, v1, rfl, .inl (.inl upd_same), rr.mono st.sub⟩
    · rw [if_neg hl] at h1; exact h1.elim
theorem pt_lst (h : PA X es (TAof c r W el)) : PE X (.List es pos) (TEof c r W (eLst el)) := PE.imp (pe_lst h) fun σ H Q ⟨ads, G, env, R, h⟩ => by
  refine ⟨ads, G, env, R, Sat_mono (Sat_bind.mp h) (fun xs e1 h1 ads1 G1 H1 v1 R1 s1 p1 => ?_) fun _ _ z => z⟩
  cases q : trees xs with
  | none => simp only [q] at h1; exact h1.elim
  | some ts =>
    simp only [q] at h1
    by_cases hl : ts.length ≤ LIM
    · rw [if_pos hl] at h1
      have rr := trees_rep p1 q
      refine ⟨by rw [rr.length]; exact lim_line hl, fun a ha => ?_⟩
      have st := Step.alloc (o := .lst v1) R1.sub ha
      refine h1 ads1 _ _ _ (R1.next st) (s1.trans (Nxt.of st)) ?_
      simp only [VRep, Rep]
      exact ⟨a, v1, rfl, upd_same, rr.mono st.sub⟩
    · rw [if_neg hl] at h1; exact h1.elim

/-! ### truth, tests -/
@[simp] def tru : PV → Option Bool
  | .non => some false
  | .bl b => some b
  | .int i => some (i != 0)
  | .str y => some ((y.length : Int) != 0)
  | .lst xs => some (!xs.isEmpty)
  | .tup xs => some (!xs.isEmpty)
  | .dct false kvs => some (!kvs.isEmpty)
  | _ => none
theorem RepL.empty {G : Hp} {ts : List PV} {vs : List V} (h : RepL c G ts vs) : vs.isEmpty = ts.isEmpty := by
  cases ts with
  | nil => cases h; rfl
  | cons _ _ => obtain ⟨v, r, rfl, _⟩ := h; rfl
theorem RepK.empty {G : Hp} {ts : List (PV × PV)} {vs : List (Key × V)} (h : RepK c G ts vs) : vs.isEmpty = ts.isEmpty := by
  cases ts with
  | nil => cases h; rfl
  | cons x _ => obtain ⟨k, y⟩ := x; obtain ⟨q, v, r, rfl, _⟩ := h; rfl
theorem tru_rep {G H : Hp} {t : PV} {v : V} {k : Bool} (s : Sub G H) (h : WRep c G H t v) (e : tru t = some k) : TruV c.K v H k := by
  cases t with
  | non => cases h; cases e; rfl
  | bl b => cases h; cases e; rfl
  | int i => cases h; cases e; rfl
  | str x => obtain ⟨rfl, hx, _⟩ := h; cases e; exact ⟨hx, rfl⟩
  | lst xs => obtain ⟨p, vs, rfl, hx, rr⟩ := h; cases e; exact .inl ⟨vs, .inl (.inl hx), by rw [rr.empty]⟩
  | tup xs => obtain ⟨p, vs, rfl, hx, rr⟩ := h; cases e; exact .inr (.inl ⟨vs, s.sqT hx, by rw [rr.empty]⟩)
  | ins k fs => cases e
  | scr _ => cases e
  | cls _ => cases e
  | dct t kvs =>
    obtain ⟨p, rfl, h⟩ := h
    cases t with
    | true => cases e
    | false =>
      cases e
      rcases h with ⟨_, ks, h, rr⟩ | ⟨z, _⟩
      · exact .inr (.inr ⟨ks, h, by rw [rr.empty]⟩)
      · cases z
@[simp] def tTru (ea : EvE) : EvT := fun env => (ea env).bind fun x e => match look e x with
  | some t => ofO (tru t) e
  | none => .bad
theorem tt_truth (hK : X.K = c.K) (ha : PE X a (TEof c r W ea)) (he : ∀ whole, isTrue a X.env whole = (do let v ← whole; standAt a.pos; holding [v] (truthy v)) := by intro _; rfl) : PT X a (TTof c r W (tTru ea)) :=
  PT.imp (pt_truth ha he) fun σ H Q ⟨ads, G, env, R, h⟩ => by
    refine ⟨ads, G, env, R, Sat_mono (Sat_bind.mp h) (fun x e1 h1 ads1 G1 H1 v1 R1 s1 p1 => ?_) fun _ _ z => z⟩
    cases q : look e1 x with
    | none => simp only [q] at h1; exact h1.elim
    | some t =>
      simp only [q] at h1
      obtain ⟨k, hk, h2⟩ := Sat_ofO.mp h1
      exact ⟨k, by rw [hK]; exact tru_rep R1.sub (look_rep R1 p1 q) hk, h2 ads1 G1 H1 R1 s1⟩
@[simp] def bOf (x : Vl) : Option Bool := match x with
  | .tr (.bl b) => some b
  | _ => none
theorem bOf_rep {σ : L2.St} {G : Hp} {x : Vl} {v : V} {b : Bool} (h : VRep c σ G x v) (e : bOf x = some b) : v = .bl b := by
  cases x with
  | sl i => cases e
  | tr t =>
    cases t with
    | bl b' => cases e; simpa [VRep, Rep] using h
    | _ => cases e
/-- a value that is a bool, as a test -/
@[simp] def tBl (ea : EvE) : EvT := fun env => (ea env).bind fun x e => ofO (bOf x) e
theorem tt_cmp {op : CmpOp} {f : PV → PV → Option PV} (ho : OpP X c (compareOp op) f) (ha : PE X a (TEof c r W ea)) (hb : PE X b (TEof c r W eb)) (hm : behindInMarks op b = false) : PT X (.Compare a [op] [b] pos) (TTof c r W (tBl (eBin f ea eb))) :=
  PT.imp (pt_cmpR opAny ha hb hm) fun σ H Q ⟨ads, G, env, R, h⟩ => bin_imp ho ⟨ads, G, env, R, Sat_mono (Sat_bind.mp h) (fun x e1 h1 ads1 G1 H1 v1 R1 s1 p1 => by
    obtain ⟨k, hk, h2⟩ := Sat_ofO.mp h1
    exact ⟨k, bOf_rep p1 hk, h2 ads1 G1 H1 R1 s1⟩) fun _ _ z => z⟩
@[simp] def tNt (et : EvT) : EvT := fun env => (et env).bind fun b e => .ok (!b) e
theorem tt_not (ha : PT X a (TTof c r W et)) : PT X (.UnaryOp .Not a pos) (TTof c r W (tNt et)) := PT.imp (pt_not ha) fun σ H Q ⟨ads, G, env, R, h⟩ =>
  ⟨ads, G, env, R, Sat_mono (Sat_bind.mp h) (fun x e1 h1 ads1 G1 H1 R1 s1 => h1 ads1 G1 H1 R1 s1) fun _ _ z => z⟩
@[simp] def tAn (et eu : EvT) : EvT := fun env => (et env).bind fun b e => if b then eu e else .ok false e
@[simp] def tOrr (et eu : EvT) : EvT := fun env => (et env).bind fun b e => if b then .ok true e else eu e
theorem tw_and1 (ha : PT X a (TTof c r W et)) : PW X (.BoolOp .And [a] pos) (TTof c r W et) := pw_and1 ha
theorem tw_or1 (ha : PT X a (TTof c r W et)) : PW X (.BoolOp .Or [a] pos) (TTof c r W et) := pw_or1 ha
theorem tw_and (ha : PT X a (TTof c r W et)) (hb : PW X (.BoolOp .And (b :: rest) pos) (TTof c r W eu)) : PW X (.BoolOp .And (a :: b :: rest) pos) (TTof c r W (tAn et eu)) := PW.imp (pw_and ha hb) fun σ H Q ⟨ads, G, env, R, h⟩ => by
  refine ⟨ads, G, env, R, Sat_mono (Sat_bind.mp h) (fun x e1 h1 ads1 G1 H1 R1 s1 => ?_) fun _ _ z => z⟩
  cases x with
  | true => exact iteT ⟨ads1, G1, e1, R1, Sat_mono h1 (fun y e2 h2 ads2 G2 H2 R2 s2 => h2 ads2 G2 H2 R2 (s1.trans s2)) fun x e z => z.weak s1.sub⟩
  | false => exact iteF (h1 ads1 G1 H1 R1 s1)
theorem tw_or (ha : PT X a (TTof c r W et)) (hb : PW X (.BoolOp .Or (b :: rest) pos) (TTof c r W eu)) : PW X (.BoolOp .Or (a :: b :: rest) pos) (TTof c r W (tOrr et eu)) := PW.imp (pw_or ha hb) fun σ H Q ⟨ads, G, env, R, h⟩ => by
  refine ⟨ads, G, env, R, Sat_mono (Sat_bind.mp h) (fun x e1 h1 ads1 G1 H1 R1 s1 => ?_) fun _ _ z => z⟩
  cases x with
  | false => exact iteF ⟨ads1, G1, e1, R1, Sat_mono h1 (fun y e2 h2 ads2 G2 H2 R2 s2 => h2 ads2 G2 H2 R2 (s1.trans s2)) fun x e z => z.weak s1.sub⟩
  | true => exact iteT (h1 ads1 G1 H1 R1 s1)
theorem tt_w (h : PW X a (TTof c r W et)) : PT X a (TTof c r W et) := h.pt
/-! values of and, or, not -/
@[simp] def eAnd (ea eb : EvE) : EvE := fun env => (ea env).bind fun x e => match (look e x).bind tru with
  | some true => eb e
  | some false => .ok x e
  | none => .bad
@[simp] def eOr (ea eb : EvE) : EvE := fun env => (ea env).bind fun x e => match (look e x).bind tru with
  | some false => eb e
  | some true => .ok x e
  | none => .bad
@[simp] def eNot (ea : EvE) : EvE := fun env => (ea env).bind fun x e => match (look e x).bind tru with
  | some k => .ok (.tr (.bl (!k))) e
  | none => .bad
theorem look_tru {ads : Nat → List Addr} {G H : Hp} {σ : L2.St} {env : En} (R : RS c r ads G H σ env) {x : Vl} {v : V} {k : Bool} (h : VRep c σ G x v) (e : (look env x).bind tru = some k) : TruV c.K v H k := by
  cases q : look env x with
  | none => rw [q] at e; cases e
  | some t => rw [q] at e; exact tru_rep R.sub (look_rep R h q) e
theorem pt_one {op} (ha : PE X a (TEof c r W ea)) : PE X (.BoolOp op [a] pos) (TEof c r W ea) := pe_one ha
theorem pt_and (hK : X.K = c.K) (ha : PE X a (TEof c r W ea)) (hb : PE X (.BoolOp .And (b :: rest) pos) (TEof c r W eb)) : PE X (.BoolOp .And (a :: b :: rest) pos) (TEof c r W (eAnd ea eb)) := PE.imp (pe_andT ha hb) fun σ H Q ⟨ads, G, env, R, h⟩ => by
  refine ⟨ads, G, env, R, Sat_mono (Sat_bind.mp h) (fun x e1 h1 ads1 G1 H1 v1 R1 s1 p1 => ?_) fun _ _ z => z⟩
  cases q : (look e1 x).bind tru with
  | none => simp only [q] at h1; exact h1.elim
  | some k =>
    refine ⟨k, by rw [hK]; exact look_tru R1 p1 q, ?_⟩
    simp only [q] at h1
    cases k with
    | true => exact iteT ⟨ads1, G1, e1, R1, Sat_mono h1 (fun y e2 h2 ads2 G2 H2 v2 R2 s2 p2 => h2 ads2 G2 H2 v2 R2 (s1.trans s2) p2) fun x e z => z.weak s1.sub⟩
    | false => exact iteF (h1 ads1 G1 H1 v1 R1 s1 p1)
theorem pt_or (hK : X.K = c.K) (ha : PE X a (TEof c r W ea)) (hb : PE X (.BoolOp .Or (b :: rest) pos) (TEof c r W eb)) : PE X (.BoolOp .Or (a :: b :: rest) pos) (TEof c r W (eOr ea eb)) := PE.imp (pe_orT ha hb) fun σ H Q ⟨ads, G, env, R, h⟩ => by
  refine ⟨ads, G, env, R, Sat_mono (Sat_bind.mp h) (fun x e1 h1 ads1 G1 H1 v1 R1 s1 p1 => ?_) fun _ _ z => z⟩
  cases q : (look e1 x).bind tru with
  | none => simp only [q] at h1; exact h1.elim
  | some k =>
    refine ⟨k, by rw [hK]; exact look_tru R1 p1 q, ?_⟩
    simp only [q] at h1
    cases k with
    | false => exact iteF ⟨ads1, G1, e1, R1, Sat_mono h1 (fun y e2 h2 ads2 G2 H2 v2 R2 s2 p2 => h2 ads2 G2 H2 v2 R2 (s1.trans s2) p2) fun x e z => z.weak s1.sub⟩
    | true => exact iteT (h1 ads1 G1 H1 v1 R1 s1 p1)
theorem pt_notV (hK : X.K = c.K) (ha : PE X a (TEof c r W ea)) : PE X (.UnaryOp .Not a pos) (TEof c r W (eNot ea)) := PE.imp (pe_notT ha) fun σ H Q ⟨ads, G, env, R, h⟩ => by
  refine ⟨ads, G, env, R, Sat_mono (Sat_bind.mp h) (fun x e1 h1 ads1 G1 H1 v1 R1 s1 p1 => ?_) fun _ _ z => z⟩
  cases q : (look e1 x).bind tru with
  | none => simp only [q] at h1; exact h1.elim
  | some k =>
    simp only [q] at h1
    exact ⟨k, by rw [hK]; exact look_tru R1 p1 q, h1 ads1 G1 H1 _ R1 s1 (by simp [VRep, Rep])⟩
@[simp] def eIf (et : EvT) (ea eb : EvE) : EvE := fun env => (et env).bind fun b e => if b then ea e else eb e
theorem pt_if {t : Expr} (ht : PT X t (TTof c r W et)) (ha : PE X a (TEof c r W ea)) (hb : PE X b (TEof c r W eb)) : PE X (.IfExp t a b pos) (TEof c r W (eIf et ea eb)) := PE.imp (pe_ifExp ht ha hb) fun σ H Q ⟨ads, G, env, R, h⟩ => by
  refine ⟨ads, G, env, R, Sat_mono (Sat_bind.mp h) (fun x e1 h1 ads1 G1 H1 R1 s1 => ?_) fun _ _ z => z⟩
  cases x with
  | true => exact iteT ⟨ads1, G1, e1, R1, Sat_mono h1 (fun y e2 h2 ads2 G2 H2 v2 R2 s2 p2 => h2 ads2 G2 H2 v2 R2 (s1.trans s2) p2) fun x e z => z.weak s1.sub⟩
  | false => exact iteF ⟨ads1, G1, e1, R1, Sat_mono h1 (fun y e2 h2 ads2 G2 H2 v2 R2 s2 p2 => h2 ads2 G2 H2 v2 R2 (s1.trans s2) p2) fun x e z => z.weak s1.sub⟩
end
end TreeL
end
section
/-! TL4: new objects of our own (TFof), statements (SO, TSof), assignments, if, return, while, for. -/
namespace TreeL
open PySem PySem.Spec PyProof.Rows L2

/-! ### a new object that nobody else has -/
abbrev EvF := En → RE OS
def New (r : Ref) (ads : Nat → List Addr) (G : Hp) (p : Addr) : Prop := G p = none ∧ r.H0 p = none ∧ ∀ j, p ∉ ads j
def TFof (c : TC) (r : Ref) (W : WX) (ev : EvF) : TE := fun σ H Q => ∃ ads G env, RS c r ads G H σ env ∧
  (ev env).Sat (fun o env' => ∀ ads' G' H' p ad, RS c r ads' G' H' σ env' → Nxt ads G H ads' G' H' → OwRep c G' H' p ad o → (∀ a ∈ ad, New r ads' G' a ∧ H a = none) → Q (.ref p) H') (XC c r W G σ)
/-- a tree, or a new object that nobody else has -/
abbrev EvR := En → RE Arg
def ResNew (c : TC) (r : Ref) (ads' : Nat → List Addr) (G' H H' : Hp) : Arg → V → Prop
  | .t t, v => Rep c G' t v
  | .ow o, v => ∃ p ad, v = .ref p ∧ OwRep c G' H' p ad o ∧ ∀ a ∈ ad, New r ads' G' a ∧ H a = none
def TRof (c : TC) (r : Ref) (W : WX) (ev : EvR) : TE := fun σ H Q => ∃ ads G env, RS c r ads G H σ env ∧
  (ev env).Sat (fun o env' => ∀ ads' G' H' v, RS c r ads' G' H' σ env' → Nxt ads G H ads' G' H' → ResNew c r ads' G' H H' o v → Q v H') (XC c r W G σ)
@[simp] def eRes (ev : EvR) : EvE := fun env => (ev env).bind fun a e => match a with
  | .t t => .ok (.tr t) e
  | .ow o => match o.tree with
    | some t => .ok (.tr t) e
    | none => .bad
@[simp] def fRes (ev : EvR) : EvF := fun env => (ev env).bind fun a e => match a with
  | .t _ => .bad
  | .ow o => .ok o e
/-- it may be known for good at once -/
@[simp] def eOf (ef : EvF) : EvE := fun env => (ef env).bind fun o e => match o.tree with
  | some t => .ok (.tr t) e
  | none => .bad
section
variable {c : TC} {r : Ref} {ads : Nat → List Addr} {G H : Hp} {σ : L2.St} {env : En}
theorem OwRep.ad {p : Addr} {ad : List Addr} {o : OS} {t : PV} (h : OwRep c G H p ad o) (ht : o.tree = some t) : ad = [p] := by
  cases o with
  | lst xs => exact h.1
  | dct t kvs => exact h.1
  | ins k fs => exact h.1
  | boxD _ _ => cases ht
  | boxL _ _ => cases ht
theorem OwRep.one {p : Addr} {ad : List Addr} {o : OS} {t : PV} (h : OwRep c G H p ad o) (ht : o.tree = some t) : ∃ ho, H p = some ho := h.has p (by rw [h.ad ht]; exact List.mem_singleton.mpr rfl)
/-- an owned object, known for good -/
theorem OwRep.known {p : Addr} {ad : List Addr} {o : OS} {t : PV} {ho : HO} (h : OwRep c G H p ad o) (ht : o.tree = some t) (hp : H p = some ho) (s : Sub G (upd G p ho)) : Rep c (upd G p ho) t (.ref p) := by
  cases o with
  | lst xs =>
    cases ht
    obtain ⟨_, vs, h, rr⟩ := h
    rw [hp] at h; cases h
    simp only [Rep]
    exact ⟨p, vs, rfl, upd_same, rr.mono s⟩
  | dct t kvs =>
    cases ht
    obtain ⟨_, h⟩ := h
    simp only [Rep]
    refine ⟨p, rfl, ?_⟩
    rcases h with ⟨z, ks, h, rr⟩ | ⟨z, ks, h, rr⟩
    · rw [hp] at h; cases h; exact .inl ⟨z, ks, upd_same, rr.mono s⟩
    · rw [hp] at h; cases h; exact .inr ⟨z, ks, upd_same, rr.mono s⟩
  | ins k fs =>
    cases ht
    obtain ⟨_, dx, gs, h, rr⟩ := h
    rw [hp] at h; cases h
    simp only [Rep]
    exact ⟨p, dx, gs, rfl, upd_same, rr.mono s⟩
  | boxD _ _ => cases ht
  | boxL _ _ => cases ht
/-- more is known for good -/
theorem RS.know (R : RS c r ads G H σ env) {p : Addr} {ho : HO} (hp : H p = some ho) (hn : New r ads G p) : Sub G (upd G p ho) ∧ RS c r ads (upd G p ho) H σ env := by
  obtain ⟨s1, s2⟩ := Step.freeze R.sub hn.1 hp
  refine ⟨s1, ⟨⟨R.step.sub.trans s1, s2, fun a u e => ?_, R.step.keep, R.step.there⟩, R.len, fun j => (R.slot j).stay s1 fun _ _ _ e => e, fun j a ha => ⟨?_, (R.own j a ha).2⟩, R.disj, R.pin⟩⟩
  · by_cases z : a = p
    · rw [z]; exact .inr hn.2.1
    · rw [upd_ne z] at e; exact R.step.new a u e
  · have ne : a ≠ p := fun q => hn.2.2 j (by rw [← q]; exact ha)
    rw [upd_ne ne]
    exact (R.own j a ha).1
theorem New.of (R : RS c r ads G H σ env) {p : Addr} (hp : H p = none) : New r ads G p := by
  refine ⟨?_, R.step.there p hp, fun j hj => ?_⟩
  · cases e : G p with
    | none => rfl
    | some u =>
      have z := R.sub _ _ e
      rw [hp] at z; cases z
  · obtain ⟨u, e⟩ := R.ownSome hj
    rw [hp] at e; cases e
/-- a new object of our own is laid -/
theorem RS.lay (R : RS c r ads G H σ env) {p : Addr} {ho : HO} (hp : H p = none) : RS c r ads G (upd H p ho) σ env := R.next (Step.allocO R.sub hp)
end
section
variable {X : Cx} {c : TC} {r : Ref} {W : WX} {a b e : Expr} {es rest : List Expr} {ea eb : EvE} {et eu : EvT} {el : EvA} {ef : EvF} {pos p : Pos}
theorem pt_of (h : PE X e (TFof c r W ef)) : PE X e (TEof c r W (eOf ef)) := PE.imp h fun σ H Q ⟨ads, G, env, R, h⟩ => by
  refine ⟨ads, G, env, R, Sat_mono (Sat_bind.mp h) (fun o e1 h1 ads1 G1 H1 p1 ad R1 s1 ow nw => ?_) fun _ _ z => z⟩
  cases q : o.tree with
  | none => simp only [q] at h1; exact h1.elim
  | some t =>
    simp only [q] at h1
    obtain ⟨ho, hp⟩ := ow.one q
    have n1 := nw p1 (by rw [ow.ad q]; exact List.mem_singleton.mpr rfl)
    obtain ⟨s2, R2⟩ := R1.know hp n1.1
    exact h1 ads1 _ H1 (.ref p1) R2 (s1.fresh n1.1.1 n1.2) (ow.known q hp s2)
theorem pt_res {er : EvR} (h : PE X e (TRof c r W er)) : PE X e (TEof c r W (eRes er)) := PE.imp h fun σ H Q ⟨ads, G, env, R, h⟩ => by
  refine ⟨ads, G, env, R, Sat_mono (Sat_bind.mp h) (fun o e1 h1 ads1 G1 H1 v1 R1 s1 ow => ?_) fun _ _ z => z⟩
  cases o with
  | t t => exact h1 ads1 G1 H1 v1 R1 s1 ow
  | ow o =>
    obtain ⟨p1, ad, rfl, ow, nw⟩ := ow
    cases q : o.tree with
    | none => simp only [q] at h1; exact h1.elim
    | some t =>
      simp only [q] at h1
      obtain ⟨ho, hp⟩ := ow.one q
      have n1 := nw p1 (by rw [ow.ad q]; exact List.mem_singleton.mpr rfl)
      obtain ⟨s2, R2⟩ := R1.know hp n1.1
      exact h1 ads1 _ H1 (.ref p1) R2 (s1.fresh n1.1.1 n1.2) (ow.known q hp s2)
theorem pf_res {er : EvR} (h : PE X e (TRof c r W er)) : PE X e (TFof c r W (fRes er)) := PE.imp h fun σ H Q ⟨ads, G, env, R, h⟩ => by
  refine ⟨ads, G, env, R, Sat_mono (Sat_bind.mp h) (fun o e1 h1 ads1 G1 H1 v1 R1 s1 ow => ?_) fun _ _ z => z⟩
  cases o with
  | t t => exact h1.elim
  | ow o =>
    obtain ⟨p1, ad, rfl, ow, nw⟩ := ow
    exact h1 ads1 G1 H1 p1 ad R1 s1 ow nw
@[simp] def fLst (el : EvA) : EvF := fun env => (el env).bind fun xs e => match trees xs with
  | some ts => if ts.length ≤ LIM then .ok (.lst ts) e else .bad
  | none => .bad
theorem pf_lst (h : PA X es (TAof c r W el)) : PE X (.List es pos) (TFof c r W (fLst el)) := PE.imp (pe_lst h) fun σ H Q ⟨ads, G, env, R, h⟩ => by
  refine ⟨ads, G, env, R, Sat_mono (Sat_bind.mp h) (fun xs e1 h1 ads1 G1 H1 v1 R1 s1 p1 => ?_) fun _ _ z => z⟩
  cases q : trees xs with
  | none => simp only [q] at h1; exact h1.elim
  | some ts =>
    simp only [q] at h1
    by_cases hl : ts.length ≤ LIM
    · rw [if_pos hl] at h1
      have rr := trees_rep p1 q
      refine ⟨by rw [rr.length]; exact lim_line hl, fun a ha => ?_⟩
      exact h1 ads1 G1 _ a [a] (R1.lay ha) (s1.trans (Nxt.of (Step.allocO R1.sub ha))) ⟨rfl, v1, upd_same, rr⟩ fun b hb => by rw [List.mem_singleton.mp hb]; exact ⟨New.of R1 ha, s1.there a ha⟩
    · rw [if_neg hl] at h1; exact h1.elim
end

/-! ### statements -/
inductive SO where
  | nx (e : En) | rt (t : Arg) (e : En) | bk (e : En) | ct (e : En) | exc (x : EX) (e : En) | bad
abbrev EvS := En → SO
structure SK where
  nx : En → Prop
  rt : Arg → En → Prop
  bk : En → Prop
  ct : En → Prop
  ex : EX → En → Prop
def SO.Sat (k : SK) : SO → Prop
  | .nx e => k.nx e
  | .rt t e => k.rt t e
  | .bk e => k.bk e
  | .ct e => k.ct e
  | .exc x e => k.ex x e
  | .bad => False
@[simp] def SO.bind (s : SO) (f : En → SO) : SO := match s with
  | .nx e => f e
  | s => s
theorem SO.Sat_bind {s : SO} {f : En → SO} {k : SK} : (s.bind f).Sat k ↔ s.Sat { k with nx := fun e => (f e).Sat k } := by
  cases s <;> rfl
theorem SO.Sat_mono {s : SO} {k k' : SK} (h : s.Sat k) (h1 : ∀ e, k.nx e → k'.nx e) (h2 : ∀ t e, k.rt t e → k'.rt t e) (h3 : ∀ e, k.bk e → k'.bk e) (h4 : ∀ e, k.ct e → k'.ct e) (h5 : ∀ x e, k.ex x e → k'.ex x e) : s.Sat k' := by
  cases s with
  | nx e => exact h1 e h
  | rt t e => exact h2 t e h
  | bk e => exact h3 e h
  | ct e => exact h4 e h
  | exc x e => exact h5 x e h
  | bad => exact h
/-- from an expression's result to a statement's -/
@[simp] def RE.so {α : Type} (x : RE α) (f : α → En → SO) : SO := match x with
  | .ok a e => f a e
  | .exc x e => .exc x e
  | .bad => .bad
theorem RE.so_Sat {α : Type} {x : RE α} {f : α → En → SO} {k : SK} : (x.so f).Sat k ↔ x.Sat (fun a e => (f a e).Sat k) k.ex := by
  cases x <;> rfl
/-- what a def gives: a tree, or an object that was not there when the def was called, which nobody else has -/
def RetRep (c : TC) (H0 : Hp) (G' H' : Hp) : Arg → V → Prop
  | .t t, v => Rep c G' t v
  | .ow o, v => ∃ p ad, v = .ref p ∧ OwRep c G' H' p ad o ∧ ∀ a ∈ ad, G' a = none ∧ H0 a = none
/-- what is wanted behind a statement, of trees -/
def Kof (c : TC) (r : Ref) (W : WX) (G : Hp) (D : Ends) : SK where
  nx := fun env' => ∀ ads' G' H' σ', RS c r ads' G' H' σ' env' → Sub G G' → D.nx σ' H'
  rt := fun t env' => ∀ ads' G' H' σ' v, RS c r ads' G' H' σ' env' → Sub G G' → RetRep c r.H0 G' H' t v → D.rt v H'
  bk := fun env' => ∀ ads' G' H' σ', RS c r ads' G' H' σ' env' → Sub G G' → D.bk σ' H'
  ct := fun env' => ∀ ads' G' H' σ', RS c r ads' G' H' σ' env' → Sub G G' → D.ct σ' H'
  ex := fun x env' => ∀ ads' G' H' σ' cls d, RS c r ads' G' H' σ' env' → Sub G G' → RepX c G' x cls d H' → W cls d σ' H'
def TSof (c : TC) (r : Ref) (W : WX) (ex : EvS) : TS := fun D σ H => ∃ ads G env, RS c r ads G H σ env ∧ (ex env).Sat (Kof c r W G D)
theorem Kof.weak {c : TC} {r : Ref} {W : WX} {G G1 : Hp} {D : Ends} (s : Sub G G1) {o : SO} (h : o.Sat (Kof c r W G D)) : o.Sat (Kof c r W G1 D) :=
  SO.Sat_mono h (fun e h a b d σ R s' => h a b d σ R (s.trans s')) (fun t e h a b d σ v R s' => h a b d σ v R (s.trans s')) (fun e h a b d σ R s' => h a b d σ R (s.trans s')) (fun e h a b d σ R s' => h a b d σ R (s.trans s'))
    fun x e h a b d σ cls dd R s' => h a b d σ cls dd R (s.trans s')
theorem XC.of {c : TC} {r : Ref} {W : WX} {G : Hp} {D : Ends} {σ : L2.St} {x : EX} {e : En} (h : (Kof c r W G D).ex x e) : XC c r W G σ x e := fun a b d cls dd R s p => h a b d σ cls dd R s p
@[simp] def sSkip : EvS := fun env => .nx env
@[simp] def sSeq (x y : EvS) : EvS := fun env => (x env).bind y
section
variable {X : Cx} {c : TC} {r : Ref} {W : WX} {st : Stmt} {sts : List Stmt} {xs ys : EvS} {e : Expr} {ea : EvE} {et : EvT} {pos : Pos}
theorem tss_nil : PSs X [] (TSof c r W sSkip) := PSs.imp pss_nil fun D σ H ⟨ads, G, env, R, h⟩ => h ads G H σ R (Sub.refl _)
theorem tss_cons (h1 : PS X st (TSof c r W xs)) (h2 : PSs X sts (TSof c r W ys)) : PSs X (st :: sts) (TSof c r W (sSeq xs ys)) := PSs.imp (pss_cons h1 h2) fun D σ H ⟨ads, G, env, R, h⟩ =>
  ⟨ads, G, env, R, SO.Sat_mono (SO.Sat_bind.mp h) (fun e1 h1 ads1 G1 H1 σ1 R1 s1 => ⟨ads1, G1, e1, R1, Kof.weak s1 h1⟩) (fun _ _ z => z) (fun _ z => z) (fun _ z => z) fun _ _ z => z⟩
theorem tss_one (h1 : PS X st (TSof c r W xs)) : PSs X [st] (TSof c r W xs) := pss_one h1
theorem ts_pass : PS X (.Pass pos) (TSof c r W sSkip) := PS.imp ps_pass fun D σ H ⟨ads, G, env, R, h⟩ => h ads G H σ R (Sub.refl _)
@[simp] def sBreak : EvS := fun env => .bk env
@[simp] def sCont : EvS := fun env => .ct env
theorem ts_break : PS X (.Break pos) (TSof c r W sBreak) := PS.imp ps_break fun D σ H ⟨ads, G, env, R, h⟩ => h ads G H σ R (Sub.refl _)
theorem ts_cont : PS X (.Continue pos) (TSof c r W sCont) := PS.imp ps_continue fun D σ H ⟨ads, G, env, R, h⟩ => h ads G H σ R (Sub.refl _)
@[simp] def sEx (ea : EvE) : EvS := fun env => (ea env).so fun _ e => .nx e
theorem ts_expr (he : PE X e (TEof c r W ea)) (hs : swapsWith e none pos.line X.env = pure false := by rfl) : PS X (.Expr e pos) (TSof c r W (sEx ea)) := PS.imp (ps_expr he hs) fun D σ H ⟨ads, G, env, R, h⟩ =>
  ⟨ads, G, env, R, Sat_mono (RE.so_Sat.mp h) (fun x e1 h1 ads1 G1 H1 v1 R1 s1 p1 => h1 ads1 G1 H1 σ R1 s1.sub) fun x e z => XC.of z⟩
/-- pn: the slots that must stay -/
@[simp] def sRet (pn : List Nat) (ea : EvE) : EvS := fun env => (ea env).so fun x e => match x with
  | .tr t => .rt (.t t) e
  | .sl i => if pn.contains i then .bad else match e[i]? with
    | some (some a) => .rt a e
    | _ => .bad
theorem ts_ret {pn : List Nat} (hp : r.pins.map Prod.fst = pn) (he : PE X e (TEof c r W ea)) : PS X (.Return (some e) pos) (TSof c r W (sRet pn ea)) := PS.imp (ps_ret he) fun D σ H ⟨ads, G, env, R, h⟩ =>
  ⟨ads, G, env, R, Sat_mono (RE.so_Sat.mp h) (fun x e1 h1 ads1 G1 H1 v1 R1 s1 p1 => by
    cases x with
    | tr t => exact h1 ads1 G1 H1 σ v1 R1 s1.sub p1
    | sl i =>
      have h1' : (if pn.contains i then SO.bad else match e1[i]? with
        | some (some a) => .rt a e1
        | _ => .bad).Sat (Kof c r W G D) := h1
      by_cases q : pn.contains i = true
      · rw [if_pos q] at h1'; exact h1'.elim
      · rw [if_neg q] at h1'
        have p2 : σ[i]? = some (some v1) := p1
        have sl := R1.slot i
        rw [p2] at sl
        cases z : e1[i]? with
        | none => rw [z] at h1'; exact h1'.elim
        | some o =>
          rw [z] at h1' sl
          cases o with
          | none => exact h1'.elim
          | some a =>
            refine h1' ads1 G1 H1 σ v1 R1 s1.sub ?_
            cases a with
            | t t => exact sl.2
            | ow o =>
              obtain ⟨p, e0, ow⟩ := sl
              refine ⟨p, ads1 i, e0, ow, fun a ha => ⟨(R1.own i a ha).1, ?_⟩⟩
              rcases (R1.own i a ha).2 with y | y
              · rw [hp] at y
                exact absurd (List.contains_iff_mem.mpr y.1) q
              · exact y) fun x e z => XC.of z⟩
/-- a new object is given -/
@[simp] def sRetF (ef : EvF) : EvS := fun env => (ef env).so fun o e => .rt (.ow o) e
theorem ts_retF {ef : EvF} (he : PE X e (TFof c r W ef)) : PS X (.Return (some e) pos) (TSof c r W (sRetF ef)) := PS.imp (ps_ret he) fun D σ H ⟨ads, G, env, R, h⟩ =>
  ⟨ads, G, env, R, Sat_mono (RE.so_Sat.mp h) (fun o e1 h1 ads1 G1 H1 p ad R1 s1 ow nw =>
    h1 ads1 G1 H1 σ (.ref p) R1 s1.sub ⟨p, ad, rfl, ow, fun a ha => ⟨(nw a ha).1.1, (nw a ha).1.2.1⟩⟩) fun x e z => XC.of z⟩
@[simp] def sRetN : EvS := fun env => .rt (.t .non) env
theorem ts_retN : PS X (.Return none pos) (TSof c r W sRetN) := PS.imp ps_retN fun D σ H ⟨ads, G, env, R, h⟩ => h ads G H σ .non R (Sub.refl _) (by simp [RetRep, Rep])
@[simp] def sIf (et : EvT) (xs ys : EvS) : EvS := fun env => (et env).so fun b e => if b then xs e else ys e
theorem ts_if {t : Expr} {a b : List Stmt} (ht : PT X t (TTof c r W et)) (ha : PSs X a (TSof c r W xs)) (hb : PSs X b (TSof c r W ys)) : PS X (.If t a b pos) (TSof c r W (sIf et xs ys)) := PS.imp (ps_if ht ha hb) fun D σ H ⟨ads, G, env, R, h⟩ =>
  ⟨ads, G, env, R, Sat_mono (RE.so_Sat.mp h) (fun x e1 h1 ads1 G1 H1 R1 s1 => by
    cases x with
    | true => exact iteT ⟨ads1, G1, e1, R1, Kof.weak s1.sub h1⟩
    | false => exact iteF ⟨ads1, G1, e1, R1, Kof.weak s1.sub h1⟩) fun x e z => XC.of z⟩
end

/-! ### targets -/
abbrev Tg := PV → En → Option En
/-- vs: the slots that may be stored -/
def TGof (c : TC) (r : Ref) (vs : List Nat) (ag : Tg) : TG := fun v σ H Q => ∃ ads G env t env', RS c r ads G H σ env ∧ Rep c G t v ∧ ag t env = some env' ∧ ∀ ads' σ', RS c r ads' G H σ' env' → σ'.length = σ.length → (∀ j, j ∉ vs → σ'[j]? = σ[j]?) → (∀ j, j ∉ vs → ads' j = ads j) → (∀ j, j ∈ vs → ads' j = [] ∨ ads' j = ads j) → Q σ' H
def TGsof (c : TC) (r : Ref) (vs : List Nat) (ag : List PV → En → Option En) : TGs := fun xs σ H Q => ∃ ads G env ts env', RS c r ads G H σ env ∧ RepL c G ts xs ∧ ag ts env = some env' ∧ ∀ ads' σ', RS c r ads' G H σ' env' → σ'.length = σ.length → (∀ j, j ∉ vs → σ'[j]? = σ[j]?) → (∀ j, j ∉ vs → ads' j = ads j) → (∀ j, j ∈ vs → ads' j = [] ∨ ads' j = ads j) → Q σ' H
@[simp] def gNm (i : Nat) : Tg := fun t env => some (env.set i (some (.t t)))
@[simp] def gsNil : List PV → En → Option En := fun ts env => match ts with
  | [] => some env
  | _ => none
@[simp] def gsCons (g : Tg) (gs : List PV → En → Option En) : List PV → En → Option En := fun ts env => match ts with
  | [] => none
  | t :: ts => (g t env).bind (gs ts)
@[simp] def gTp (n : Nat) (gs : List PV → En → Option En) : Tg := fun t env => match t with
  | .tup ts => if ts.length = n then gs ts env else none
  | _ => none
section
variable {X : Cx} {c : TC} {r : Ref} {W : WX} {tg e : Expr} {es : List Expr} {g : Tg} {gs : List PV → En → Option En} {ea : EvE} {pos : Pos} {us ws : List Nat}
theorem PG.imp {t t' : TG} (h : PG X tg t) (i : ∀ v σ H Q, t' v σ H Q → t v σ H Q) : PG X tg t' := ⟨fun pins s σ H v u Q I rv q => h.run pins s σ H v u Q I rv (i v σ H Q q)⟩
theorem PGs.imp {t t' : TGs} (h : PGs X es t) (i : ∀ v σ H Q, t' v σ H Q → t v σ H Q) : PGs X es t' := ⟨fun pins s σ H v u Q I rv q => h.run pins s σ H v u Q I rv (i v σ H Q q)⟩
theorem tg_name {i : Nat} (h : PG X tg (gName i)) (hp : (r.pins.map Prod.fst).contains i = false) : PG X tg (TGof c r [i] (gNm i)) := PG.imp h fun v σ H Q ⟨ads, G, env, t, env', R, rp, e, k⟩ => by
  cases e
  refine k _ _ (R.set rp hp) (by simp) (fun j hj => ?_) (fun j hj => ?_) fun j hj => ?_
  · exact List.getElem?_set_ne fun z => hj (by rw [z]; exact List.mem_singleton.mpr rfl)
  · exact if_neg fun z => hj (by rw [z]; exact List.mem_singleton.mpr rfl)
  · exact .inl (if_pos (List.mem_singleton.mp hj))
theorem tgs_nil : PGs X [] (TGsof c r [] gsNil) := PGs.imp pgs_nil fun vs σ H Q ⟨ads, G, env, ts, env', R, rp, e, k⟩ => by
  cases ts with
  | nil => cases e; cases rp; exact ⟨rfl, k _ _ R rfl (fun _ _ => rfl) (fun _ _ => rfl) fun _ z => nomatch z⟩
  | cons _ _ => cases e
theorem tgs_cons (h1 : PG X e (TGof c r us g)) (h2 : PGs X es (TGsof c r ws gs)) (hs : (assignEach (e :: es) X.env).map (·.2) = assign e X.env :: (assignEach es X.env).map (·.2) := by rfl) : PGs X (e :: es) (TGsof c r (us ++ ws) (gsCons g gs)) :=
  PGs.imp (pgs_cons h1 h2 hs) fun vs σ H Q ⟨ads, G, env, ts, env', R, rp, e, k⟩ => by
    cases ts with
    | nil => cases e
    | cons t ts =>
      obtain ⟨v, rest, rfl, hv, hr⟩ := rp
      simp only [gsCons] at e
      cases q : g t env with
      | none => rw [q] at e; cases e
      | some e1 =>
        rw [q] at e
        refine ⟨v, rest, rfl, ads, G, env, t, e1, R, hv, q, fun ads1 σ1 R1 l1 a1 b1 c1 => ⟨ads1, G, e1, ts, env', R1, hr, e, fun ads2 σ2 R2 l2 a2 b2 c2 => ?_⟩⟩
        refine k ads2 σ2 R2 (l2.trans l1) (fun j hj => ?_) (fun j hj => ?_) fun j hj => ?_
        · rw [List.mem_append] at hj
          rw [a2 j fun z => hj (.inr z), a1 j fun z => hj (.inl z)]
        · rw [List.mem_append] at hj
          rw [b2 j fun z => hj (.inr z), b1 j fun z => hj (.inl z)]
        · have p1 : ads1 j = [] ∨ ads1 j = ads j := by
            by_cases z : j ∈ us
            · exact c1 j z
            · exact .inr (b1 j z)
          have p2 : ads2 j = [] ∨ ads2 j = ads1 j := by
            by_cases z : j ∈ ws
            · exact c2 j z
            · exact .inr (b2 j z)
          rcases p2 with z | z
          · exact .inl z
          · rw [z]; exact p1
theorem tg_tup {k n : Nat} (hK : X.K = c.K) (hc : X.calm = true) (h : PGs X es (TGsof c r ws gs)) (hn : (assignEach es X.env).length = n := by rfl) (hst : (assignEach es X.env).findIdx? (·.1) = none := by rfl) : PG X (.Tuple es k pos) (TGof c r ws (gTp n gs)) :=
  PG.imp (pg_tup hc h hn hst) fun v σ H Q ⟨ads, G, env, t, env', R, rp, e, k⟩ => by
    cases t with
    | tup ts =>
      simp only [gTp] at e
      by_cases l : ts.length = n
      · rw [if_pos l] at e
        simp only [Rep] at rp
        obtain ⟨a, vs, rfl, hs, rr⟩ := rp
        exact ⟨a, vs, rfl, by rw [hK]; exact R.sub.sqT hs, by rw [rr.length, l], ads, G, env, ts, env', R, rr, e, k⟩
      · rw [if_neg l] at e; cases e
    | _ => cases e
/-- target = value -/
@[simp] def sAsg (ea : EvE) (g : Tg) : EvS := fun env => (ea env).so fun x e => match x with
  | .tr t => (match g t e with
    | some e' => .nx e'
    | none => .bad)
  | .sl _ => .bad
theorem asg_imp {D : Ends} {σ : L2.St} {H : Hp} (h : TSof c r W (sAsg ea g) D σ H) : tAsg (TEof c r W ea) (TGof c r us g) D σ H := by
  obtain ⟨ads, G, env, R, h⟩ := h
  refine ⟨ads, G, env, R, Sat_mono (RE.so_Sat.mp h) (fun x e1 h1 ads1 G1 H1 v1 R1 s1 p1 => ?_) fun x e z => XC.of z⟩
  cases x with
  | sl i => exact h1.elim
  | tr t =>
    cases q : g t e1 with
    | none => simp only [q] at h1; exact h1.elim
    | some e2 =>
      simp only [q] at h1
      exact ⟨ads1, G1, e1, t, e2, R1, p1, q, fun ads' σ' R' _ _ _ _ => h1 ads' G1 H1 σ' R' s1.sub⟩
theorem ts_asg (he : PE X e (TEof c r W ea)) (hg : PG X tg (TGof c r us g)) (hs : swapsWithSole [tg] e pos.line X.env = pure false := by rfl) (hw : swappedStores [tg] e X.env = pure none := by rfl)
    (h1 : (assignEach [tg] X.env).map (·.2) = [assign tg X.env] := by rfl) : PS X (.Assign [tg] e pos) (TSof c r W (sAsg ea g)) := PS.imp (ps_asg he hg hs hw h1) fun D σ H h => asg_imp h
/-- x = a new list, dict of our own -/
@[simp] def sOwn (i : Nat) (ef : EvF) : EvS := fun env => (ef env).so fun o e => if i < e.length then .nx (e.set i (some (.ow o))) else .bad
theorem own_imp {ef : EvF} {i : Nat} (hp : (r.pins.map Prod.fst).contains i = false) {D : Ends} {σ : L2.St} {H : Hp} (h : TSof c r W (sOwn i ef) D σ H) : tAsg (TFof c r W ef) (gName i) D σ H := by
  obtain ⟨ads, G, env, R, h⟩ := h
  refine ⟨ads, G, env, R, Sat_mono (RE.so_Sat.mp h) (fun o e1 h1 ads1 G1 H1 p1 ad R1 s1 ow nw => ?_) fun x e z => XC.of z⟩
  by_cases l : i < e1.length
  · rw [if_pos l] at h1
    exact h1 _ G1 H1 _ (R1.setOwn ow (fun a ha => (nw a ha).1) hp l) s1.sub
  · rw [if_neg l] at h1; exact h1.elim
theorem ts_own {ef : EvF} {i : Nat} {x : Str} {pos' : Pos} (hN : X.N.Nodup) (hi : X.N[i]? = some x) (hx : Loc X.env.scope x) (hp : (r.pins.map Prod.fst).contains i = false) (he : PE X e (TFof c r W ef)) (hs : swapsWith e (some (.Name x pos')) pos.line X.env = pure false := by rfl)
    (hf : X.fn x = true ∨ X.env.scope.names.lookup x = some .local := by first | exact .inl rfl | exact .inr rfl | assumption) : PS X (.Assign [.Name x pos'] e pos) (TSof c r W (sOwn i ef)) :=
  PS.imp (ps_set hN hi hx he hs hf) fun D σ H h => own_imp hp h
/-- x = e, x a name -/
theorem ts_set {i : Nat} {x : Str} {pos' : Pos} (hN : X.N.Nodup) (hi : X.N[i]? = some x) (hx : Loc X.env.scope x) (hp : (r.pins.map Prod.fst).contains i = false) (he : PE X e (TEof c r W ea)) (hs : swapsWith e (some (.Name x pos')) pos.line X.env = pure false := by rfl)
    (hf : X.fn x = true ∨ X.env.scope.names.lookup x = some .local := by first | exact .inl rfl | exact .inr rfl | assumption) : PS X (.Assign [.Name x pos'] e pos) (TSof c r W (sAsg ea (gNm i))) :=
  PS.imp (ps_set hN hi hx he hs hf) fun D σ H ⟨ads, G, env, R, h⟩ => by
    refine ⟨ads, G, env, R, Sat_mono (RE.so_Sat.mp h) (fun x e1 h1 ads1 G1 H1 v1 R1 s1 p1 => ?_) fun x e z => XC.of z⟩
    cases x with
    | sl i => exact h1.elim
    | tr t => exact h1 _ G1 H1 _ (R1.set p1 hp) s1.sub
end

/-! ### while: at most n turns -/
def sLoop (et : EvT) (body : EvS) : Nat → EvS
  | 0, _ => .bad
  | n + 1, env => (et env).so fun b e => if b then (match body e with
      | .nx e' => sLoop et body n e'
      | .ct e' => sLoop et body n e'
      | .bk e' => .nx e'
      | o => o) else .nx e
theorem ts_while {X : Cx} {c : TC} {r : Ref} {W : WX} {t : Expr} {et : EvT} {body : List Stmt} {xs : EvS} {pos : Pos} (n : Nat) (hp : PassesOwn (model X.prog X.w) X.A X.env X.xe) (ht : PT X t (TTof c r W et)) (hb : PSs X body (TSof c r W xs)) :
    PS X (.While t body [] pos) (TSof c r W (sLoop et xs n)) := PS.imp (ps_while hp ht hb) fun D σ H ⟨ads, G, env, R, h⟩ => by
  refine ⟨fun m σ' H' => ∃ ads' G' env', RS c r ads' G' H' σ' env' ∧ Sub G G' ∧ (sLoop et xs m env').Sat (Kof c r W G' D), ⟨n, ads, G, env, R, Sub.refl _, h⟩, ?_⟩
  rintro m σ1 H1 ⟨ads1, G1, env1, R1, s1, h1⟩
  cases m with
  | zero => exact h1.elim
  | succ m =>
    refine ⟨ads1, G1, env1, R1, Sat_mono (RE.so_Sat.mp h1) (fun b e2 h2 ads2 G2 H2 R2 s2 => ?_) fun x e z => XC.of z⟩
    cases b with
    | false => exact iteF (h2 ads2 G2 H2 σ1 R2 s2.sub)
    | true =>
      refine iteT ⟨fun σ' H' => ∃ ads' G' env', RS c r ads' G' H' σ' env' ∧ Sub G G' ∧ (sLoop et xs m env').Sat (Kof c r W G' D), fun σ' H' w => ⟨m, Nat.lt_succ_self m, w⟩, ads2, G2, e2, R2, ?_⟩
      have h3 := Kof.weak s2.sub h2
      have h3' : (match xs e2 with
        | .nx e' => sLoop et xs m e'
        | .ct e' => sLoop et xs m e'
        | .bk e' => .nx e'
        | o => o).Sat (Kof c r W G2 D) := h3
      cases q : xs e2 with
      | nx e' => rw [q] at h3'; exact fun ads3 G3 H3 σ3 R3 s3 => ⟨ads3, G3, e', R3, (s1.trans s2.sub).trans s3, Kof.weak s3 h3'⟩
      | ct e' => rw [q] at h3'; exact fun ads3 G3 H3 σ3 R3 s3 => ⟨ads3, G3, e', R3, (s1.trans s2.sub).trans s3, Kof.weak s3 h3'⟩
      | bk e' => rw [q] at h3'; exact fun ads3 G3 H3 σ3 R3 s3 => h3' ads3 G3 H3 σ3 R3 s3
      | rt t e' => rw [q] at h3'; exact h3'
      | exc x e' => rw [q] at h3'; exact h3'
      | bad => rw [q] at h3'; exact h3'.elim
end TreeL
end
section
/-! TL5: what is walked (TIof), for loops, list comprehensions. -/
namespace TreeL
open PySem PySem.Spec PyProof.Rows L2

/-- what is walked is still there -/
def alive (x : Vl) (ts : List PV) (env : En) : Bool := match x with
  | .tr _ => true
  | .sl j => match env[j]? with
    | some (some (.ow (.lst xs))) => PV.beqL xs ts
    | _ => false
@[simp] theorem alive_tr (t : PV) (ts : List PV) (env : En) : alive (.tr t) ts env = true := rfl
/-- an iterator over things that stand for ts, whatever else comes about -/
def ItOk (c : TC) (r : Ref) (G0 : Hp) (x : Vl) (ts : List PV) (J : It) : Prop := ∀ i ads G H σ env, RS c r ads G H σ env → Sub G0 G → alive x ts env = true →
  (∀ t, ts[i]? = some t → J.go i H ∧ ∀ x H', J.yld i H x H' → ∃ G', Step [] H G H' G' ∧ Rep c G' t x) ∧ (ts.length ≤ i → J.stop i H)
/-- what is walked: the things, and where they lie (a tree, or a slot that must stay) -/
structure Wk where
  ts : List PV
  at_ : Vl
abbrev EvI := En → RE Wk
def TIof (c : TC) (r : Ref) (W : WX) (ev : EvI) : TI := fun σ H R => ∃ ads G env, RS c r ads G H σ env ∧
  (ev env).Sat (fun (w : Wk) env' => ∀ ads' G' H' J, RS c r ads' G' H' σ env' → Nxt ads G H ads' G' H' → ItOk c r G' w.at_ w.ts J → R J H') (XC c r W G σ)
theorem itok_list {c : TC} {r : Ref} {K : PySem.W.Frag} {G : Hp} {a : Addr} {x : Vl} {ts : List PV} {vs : List V} (h : G a = some (.lst vs)) (rr : RepL c G ts vs) : ItOk c r G x ts (Itl K a) := fun i ads G' H σ env R s1 _ => by
  have h' : SqL K H a vs := .inl (.inl (R.sub _ _ (s1 _ _ h)))
  refine ⟨fun t ht => ?_, fun hl => ⟨vs, h', by rw [rr.length]; exact hl⟩⟩
  obtain ⟨u, hu, ru⟩ := rr.get ht
  refine ⟨⟨vs, u, h', hu⟩, fun x H' ⟨e, y⟩ => ?_⟩
  subst e
  have z := y vs h'
  rw [hu] at z; cases z
  exact ⟨G', Step.refl R.sub, ru.mono s1⟩
theorem itok_tup {c : TC} {r : Ref} {K : PySem.W.Frag} {G : Hp} {a : Addr} {x : Vl} {ts : List PV} {vs : List V} (h : SqT K G a vs) (rr : RepL c G ts vs) : ItOk c r G x ts (Itt K a) := fun i ads G' H σ env R s1 _ => by
  have h' := R.sub.sqT (s1.sqT h)
  refine ⟨fun t ht => ?_, fun hl => ⟨vs, h', by rw [rr.length]; exact hl⟩⟩
  obtain ⟨u, hu, ru⟩ := rr.get ht
  refine ⟨⟨vs, u, h', hu⟩, fun x H' ⟨e, y⟩ => ?_⟩
  subst e
  have z := y vs h'
  rw [hu] at z; cases z
  exact ⟨G', Step.refl R.sub, ru.mono s1⟩
/-- the list of a slot that must stay -/
theorem itok_slot {c : TC} {r : Ref} {K : PySem.W.Frag} {G : Hp} {q : Nat × V × List Addr} {a : Addr} {ts : List PV} (hq : q ∈ r.pins) (ha : q.2.1 = .ref a) : ItOk c r G (.sl q.1) ts (Itl K a) := fun i ads G' H σ env R s1 al => by
  have sl := R.slot q.1
  rw [(R.pin q hq).1] at sl
  simp only [alive] at al
  cases z : env[q.1]? with
  | none => rw [z] at al; cases al
  | some o =>
    rw [z] at al sl
    cases o with
    | none => cases al
    | some a =>
      cases a with
      | t _ => cases al
      | ow o =>
        cases o with
        | lst xs =>
          have e := PV.beqL_eq (show PV.beqL xs ts = true from al)
          subst e
          obtain ⟨p, e1, _, vs, h, rr⟩ := sl
          rw [ha] at e1
          cases e1
          have h' : SqL K H a vs := .inl (.inl h)
          refine ⟨fun t ht => ?_, fun hl => ⟨vs, h', by rw [rr.length]; exact hl⟩⟩
          obtain ⟨u, hu, ru⟩ := rr.get ht
          refine ⟨⟨vs, u, h', hu⟩, fun x H' ⟨e, y⟩ => ?_⟩
          subst e
          have z := y vs h'
          rw [hu] at z; cases z
          exact ⟨G', Step.refl R.sub, ru⟩
        | _ => cases al
theorem itok_range {c : TC} {r : Ref} {G : Hp} {x : Vl} {lo : Int} {n : Nat} : ItOk c r G x ((List.range n).map fun (k : Nat) => PV.int (lo + (k : Int))) (Itr lo n) := fun i ads G' H σ env R s1 _ => by
  refine ⟨fun t ht => ?_, fun hl => ?_⟩
  · rw [List.getElem?_map] at ht
    by_cases lt : i < n
    · rw [List.getElem?_range lt] at ht
      cases ht
      refine ⟨lt, fun x H' ⟨e, y⟩ => ?_⟩
      subst e; subst y
      exact ⟨G', Step.refl R.sub, by simp [Rep]⟩
    · rw [List.getElem?_eq_none (by simpa using lt)] at ht; cases ht
  · have hl' : n ≤ i := by simpa using hl
    exact hl'
section
variable {X : Cx} {c : TC} {r : Ref} {W : WX} {tg e a b : Expr} {ea eb : EvE} {pos p : Pos}
theorem PI.imp {t t' : TI} (h : PI X tg e t) (i : ∀ σ H R, t' σ H R → t σ H R) : PI X tg e t' := ⟨fun pins s σ H R I q => h.run pins s σ H R I (i σ H R q)⟩
theorem PI.or {t t' : TI} (h : PI X tg e t) (h' : PI X tg e t') : PI X tg e (fun σ H R => t σ H R ∨ t' σ H R) := ⟨fun pins s σ H R I q => by
  rcases q with q | q
  · exact h.run pins s σ H R I q
  · exact h'.run pins s σ H R I q⟩
/-- pn: the slots that must stay -/
@[simp] def iSeq (pn : List Nat) (ea : EvE) : EvI := fun env => (ea env).bind fun x e => match x with
  | .tr (.lst ts) => .ok ⟨ts, .tr .non⟩ e
  | .tr (.tup ts) => .ok ⟨ts, .tr .non⟩ e
  | .sl j => if pn.contains j then (match e[j]? with
    | some (some (.ow (.lst ts))) => .ok ⟨ts, .sl j⟩ e
    | _ => .bad) else .bad
  | _ => .bad
theorem ti_seq {pn : List Nat} (hp : r.pins.map Prod.fst = pn) (hK : X.K = c.K) (ha : PE X e (TEof c r W ea)) : PI X tg e (TIof c r W (iSeq pn ea)) := PI.imp (PI.or (pi_list ha) (pi_tup ha)) fun σ H R ⟨ads, G, env, R0, h⟩ => by
  have h' := Sat_bind.mp h
  cases q : ea env with
  | bad => rw [q] at h'; exact h'.elim
  | exc x e1 =>
    rw [q] at h'
    exact .inl ⟨ads, G, env, R0, by rw [q]; exact h'⟩
  | ok x e1 =>
    rw [q] at h'
    cases x with
    | sl i =>
      refine .inl ⟨ads, G, env, R0, ?_⟩
      rw [q]
      intro ads1 G1 H1 v1 R1 s1 p1
      have h2 : (if pn.contains i then (match e1[i]? with
        | some (some (.ow (.lst ts))) => RE.ok (Wk.mk ts (.sl i)) e1
        | _ => .bad) else .bad).Sat (fun (w : Wk) env' => ∀ ads' G' H' J, RS c r ads' G' H' σ env' → Nxt ads G H ads' G' H' → ItOk c r G' w.at_ w.ts J → R J H') (XC c r W G σ) := h'
      by_cases m : pn.contains i = true
      · rw [if_pos m] at h2
        have m' := List.contains_iff_mem.mp m
        rw [← hp] at m'
        obtain ⟨pq, hq, rfl⟩ := List.mem_map.mp m'
        have p2 : σ[pq.1]? = some (some v1) := p1
        rw [(R1.pin pq hq).1] at p2
        cases p2
        have sl := R1.slot pq.1
        rw [(R1.pin pq hq).1] at sl
        cases z : e1[pq.1]? with
        | none => rw [z] at h2; exact h2.elim
        | some o =>
          rw [z] at h2 sl
          cases o with
          | none => exact h2.elim
          | some a =>
            cases a with
            | t _ => exact h2.elim
            | ow o =>
              cases o with
              | lst ts =>
                obtain ⟨p, e1, _, vs, hh, rr⟩ := sl
                exact ⟨p, e1, ⟨vs, .inl (.inl hh)⟩, h2 ads1 G1 H1 _ R1 s1 (itok_slot hq e1)⟩
              | _ => exact h2.elim
      · rw [if_neg m] at h2; exact h2.elim
    | tr t =>
      cases t with
      | lst ts =>
        refine .inl ⟨ads, G, env, R0, ?_⟩
        rw [q]
        intro ads1 G1 H1 v1 R1 s1 p1
        simp only [VRep, Rep] at p1
        obtain ⟨a, vs, rfl, hx, rr⟩ := p1
        exact ⟨a, rfl, ⟨vs, .inl (.inl (R1.sub _ _ hx))⟩, h' ads1 G1 H1 _ R1 s1 (itok_list hx rr)⟩
      | tup ts =>
        refine .inr ⟨ads, G, env, R0, ?_⟩
        rw [q]
        intro ads1 G1 H1 v1 R1 s1 p1
        simp only [VRep, Rep] at p1
        obtain ⟨a, vs, rfl, hx, rr⟩ := p1
        exact ⟨a, rfl, ⟨vs, by rw [hK]; exact R1.sub.sqT hx⟩, h' ads1 G1 H1 _ R1 s1 (itok_tup (by rw [hK]; exact hx) rr)⟩
      | _ => exact h'.elim
end

/-! ### for -/
def loopF (g : Tg) (body : EvS) (al : En → Bool) : List PV → EvS
  | [], env => if al env then .nx env else .bad
  | t :: ts, env => if al env then (match g t env with
    | none => .bad
    | some e1 => match body e1 with
      | .nx e2 => loopF g body al ts e2
      | .ct e2 => loopF g body al ts e2
      | .bk e2 => .nx e2
      | o => o) else .bad
def sFor (ev : EvI) (g : Tg) (body : EvS) : EvS := fun env => (ev env).so fun (w : Wk) e => loopF g body (alive w.at_ w.ts) w.ts e
theorem ts_for {X : Cx} {c : TC} {r : Ref} {W : WX} {tg iter : Expr} {body : List Stmt} {ev : EvI} {us : List Nat} {g : Tg} {xs : EvS} {pos : Pos} (hp : PassesOwn (model X.prog X.w) X.A X.env X.xe) (hc : X.calm = true) (hi : PI X tg iter (TIof c r W ev)) (hg : PG X tg (TGof c r us g)) (hb : PSs X body (TSof c r W xs))
    (hs : ∀ x, foldedSetIterable iter X.env x = pure x := by intro _; rfl) : PS X (.For tg iter body [] pos) (TSof c r W (sFor ev g xs)) := PS.imp (ps_for hp hc hi hg hb hs) fun D σ H ⟨ads, G, env, R, h⟩ => by
  refine ⟨ads, G, env, R, Sat_mono (RE.so_Sat.mp h) (fun w e1 h1 ads1 G1 H1 J R1 s1 it => ?_) fun x e z => XC.of z⟩
  obtain ⟨ts, at_⟩ := w
  refine ⟨fun i m σ' H' => m = ts.length - i ∧ ∃ ads' G' env', RS c r ads' G' H' σ' env' ∧ Sub G1 G' ∧ (loopF g xs (alive at_ ts) (ts.drop i) env').Sat (Kof c r W G' D), ⟨_, rfl, ads1, G1, e1, R1, Sub.refl _, Kof.weak s1.sub h1⟩, ?_⟩
  rintro i m σ2 H2 ⟨rfl, ads2, G2, env2, R2, s2, h2⟩
  by_cases al : alive at_ ts env2 = true
  rotate_left
  · cases q : ts.drop i with
    | nil => rw [q, loopF, if_neg al] at h2; exact h2.elim
    | cons t us => rw [q, loopF, if_neg al] at h2; exact h2.elim
  obtain ⟨go, stop⟩ := it i ads2 G2 H2 σ2 env2 R2 s2 al
  cases q : ts[i]? with
  | none =>
    have hl : ts.length ≤ i := List.getElem?_eq_none_iff.mp q
    rw [List.drop_eq_nil_of_le hl, loopF, if_pos al] at h2
    exact .inl ⟨stop hl, h2 ads2 G2 H2 σ2 R2 (Sub.refl _)⟩
  | some t =>
    obtain ⟨g1, g2⟩ := go t q
    have hlt : i < ts.length := (List.getElem?_eq_some_iff.mp q).1
    have hd : ts.drop i = t :: ts.drop (i + 1) := by
      rw [List.drop_eq_getElem_cons hlt, (List.getElem?_eq_some_iff.mp q).2]
    rw [hd, loopF, if_pos al] at h2
    refine .inr ⟨g1, fun σ' H' => ∃ ads' G' env', RS c r ads' G' H' σ' env' ∧ Sub G1 G' ∧ (loopF g xs (alive at_ ts) (ts.drop (i + 1)) env').Sat (Kof c r W G' D), fun σ' H' w => ⟨_, by omega, rfl, w⟩, fun x H' y => ?_⟩
    obtain ⟨G3, st, rx⟩ := g2 x H' y
    have R3 := R2.next st
    cases qg : g t env2 with
    | none => rw [qg] at h2; exact h2.elim
    | some e3 =>
      rw [qg] at h2
      refine ⟨ads2, G3, env2, t, e3, R3, rx, qg, fun ads4 σ4 R4 _ _ _ _ => ⟨ads4, G3, e3, R4, ?_⟩⟩
      have h3 := Kof.weak st.sub h2
      have h3' : (match xs e3 with
        | .nx e2 => loopF g xs (alive at_ ts) (ts.drop (i + 1)) e2
        | .ct e2 => loopF g xs (alive at_ ts) (ts.drop (i + 1)) e2
        | .bk e2 => .nx e2
        | o => o).Sat (Kof c r W G3 D) := h3
      cases qx : xs e3 with
      | nx e' => rw [qx] at h3'; exact fun ads5 G5 H5 σ5 R5 s5 => ⟨ads5, G5, e', R5, (s2.trans st.sub).trans s5, Kof.weak s5 h3'⟩
      | ct e' => rw [qx] at h3'; exact fun ads5 G5 H5 σ5 R5 s5 => ⟨ads5, G5, e', R5, (s2.trans st.sub).trans s5, Kof.weak s5 h3'⟩
      | bk e' => rw [qx] at h3'; exact fun ads5 G5 H5 σ5 R5 s5 => h3' ads5 G5 H5 σ5 R5 s5
      | rt t e' => rw [qx] at h3'; exact h3'
      | exc x e' => rw [qx] at h3'; exact h3'
      | bad => rw [qx] at h3'; exact h3'.elim

/-! ### comprehensions -/
@[simp] def wipeE (env : En) : List Nat → En
  | [] => env
  | v :: vs => (wipeE env vs).set v none
/-- the slots vs as they were in e0 -/
@[simp] def unW (e0 env : En) : List Nat → En
  | [] => env
  | v :: vs => (unW e0 env vs).set v (e0[v]?.join)
@[simp] def noOwn (env : En) (vs : List Nat) : Bool := vs.all fun j => match env[j]? with
  | some (some (.ow _)) => false
  | _ => true
theorem wipeE_length (env : En) : ∀ vs, (wipeE env vs).length = env.length
  | [] => rfl
  | v :: vs => by unfold wipeE; rw [List.length_set, wipeE_length env vs]
theorem unW_length (e0 env : En) : ∀ vs, (unW e0 env vs).length = env.length
  | [] => rfl
  | v :: vs => by unfold unW; rw [List.length_set, unW_length e0 env vs]
theorem unW_out {e0 env : En} {j : Nat} : ∀ {vs : List Nat}, j ∉ vs → (unW e0 env vs)[j]? = env[j]?
  | [], _ => rfl
  | v :: vs, h => by
    unfold unW
    rw [List.getElem?_set_ne fun e => h (by rw [e]; exact List.mem_cons_self)]
    exact unW_out fun m => h (List.mem_cons_of_mem _ m)
theorem unW_in {e0 env : En} {j : Nat} (hl : env.length = e0.length) : ∀ {vs : List Nat}, j ∈ vs → (unW e0 env vs)[j]?.join = e0[j]?.join
  | v :: vs, h => by
    unfold unW
    by_cases e : v = j
    · subst e
      by_cases lt : v < (unW e0 env vs).length
      · rw [join_set_self lt]
      · rw [set_out lt, List.getElem?_eq_none (Nat.le_of_not_lt lt)]
        rw [unW_length, hl] at lt
        rw [List.getElem?_eq_none (Nat.le_of_not_lt lt)]
    · rw [join_set_ne e]
      rcases List.mem_cons.mp h with z | z
      · exact absurd z.symm e
      · exact unW_in hl z
theorem wipe_same {σ σ2 : L2.St} {vs : List Nat} (h : ∀ j, j ∉ vs → σ2[j]? = (wipe σ vs)[j]?) (hl : σ2.length = σ.length) : wipe σ2 vs = wipe σ vs := by
  have none_in : ∀ (τ : L2.St) (us : List Nat) (j : Nat), j ∈ us → j < τ.length → (wipe τ us)[j]? = some none := by
    intro τ us
    induction us with
    | nil => intro j hj _; cases hj
    | cons v us ih =>
      intro j hj lt
      unfold wipe
      by_cases e : v = j
      · subst e
        rw [List.getElem?_set_self (by rw [wipe_length]; exact lt)]
      · rw [List.getElem?_set_ne e]
        rcases List.mem_cons.mp hj with z | z
        · exact absurd z.symm e
        · exact ih j z lt
  apply List.ext_getElem?
  intro j
  by_cases m : j ∈ vs
  · by_cases lt : j < σ.length
    · rw [none_in σ2 vs j m (by rw [hl]; exact lt), none_in σ vs j m lt]
    · rw [List.getElem?_eq_none (by rw [wipe_length, hl]; omega), List.getElem?_eq_none (by rw [wipe_length]; omega)]
  · rw [wipe_out m, h j m]
section
variable {c : TC} {r : Ref} {ads ads1 : Nat → List Addr} {G H G1 H1 : Hp} {σ : L2.St} {env env1 : En} {vs : List Nat}
def cutA (ads : Nat → List Addr) (vs : List Nat) : Nat → List Addr := fun j => if j ∈ vs then [] else ads j
theorem RS.wipes (R : RS c r ads G H σ env) (hp : ∀ j ∈ vs, (r.pins.map Prod.fst).contains j = false) : RS c r (cutA ads vs) G H (L2.wipe σ vs) (wipeE env vs) := by
  induction vs with
  | nil =>
    have e : cutA ads [] = ads := by funext j; simp [cutA]
    rw [e]; exact R
  | cons v vs ih =>
    have R' := (ih fun j hj => hp j (List.mem_cons_of_mem _ hj)).wipe (hp v List.mem_cons_self)
    have e : (fun j => if j = v then [] else cutA ads vs j) = cutA ads (v :: vs) := by
      funext j
      unfold cutA
      by_cases q : j = v
      · subst q; simp
      · by_cases m : j ∈ vs <;> simp [q, m]
    rw [e] at R'
    exact R'
/-- behind a comprehension's block -/
theorem RS.back (R0 : RS c r ads G H σ env) (no : noOwn env vs = true) (R : RS c r ads1 G1 H1 (L2.wipe σ vs) env1) (s : Nxt ads G H ads1 G1 H1) (hp : ∀ j ∈ vs, (r.pins.map Prod.fst).contains j = false) :
    RS c r (cutA ads1 vs) G1 H1 σ (unW env env1 vs) where
  step := R.step
  len := by rw [unW_length, R.len, wipe_length]
  slot := fun j => by
    have hl : env1.length = env.length := by rw [R.len, wipe_length, R0.len]
    unfold cutA
    by_cases m : j ∈ vs
    · rw [if_pos m, unW_in hl m]
      have s0 := R0.slot j
      have n := List.all_eq_true.mp no j m
      cases q : env[j]? with
      | none => rfl
      | some o =>
        rw [q] at s0 n
        cases o with
        | none => rfl
        | some a =>
          cases a with
          | ow o => cases n
          | t t =>
            cases z : σ[j]?.join with
            | none => rw [z] at s0; exact (show False from s0).elim
            | some v =>
              rw [z] at s0
              exact ⟨rfl, s0.2.mono s.sub⟩
    · rw [if_neg m, unW_out m]
      have s1 := R.slot j
      rw [wipe_out m] at s1
      exact s1
  own := fun j a ha => by
    unfold cutA at ha
    by_cases m : j ∈ vs
    · rw [if_pos m] at ha; cases ha
    · rw [if_neg m] at ha; exact R.own j a ha
  disj := fun j k a ha hb => by
    unfold cutA at ha hb
    by_cases m : j ∈ vs
    · rw [if_pos m] at ha; cases ha
    · by_cases m' : k ∈ vs
      · rw [if_pos m'] at hb; cases hb
      · rw [if_neg m] at ha; rw [if_neg m'] at hb; exact R.disj j k a ha hb
  pin := fun q hq => by
    have nv : q.1 ∉ vs := fun m => by
      have z := hp _ m
      rw [List.contains_iff_mem.mpr (List.mem_map_of_mem hq)] at z; cases z
    have p := R.pin q hq
    rw [wipe_out nv] at p
    unfold cutA
    rw [if_neg nv]
    exact p
end
def compL (g : Tg) (et : EvT) (ea : EvE) (vs : List Nat) (al : En → Bool) : List PV → List PV → En → RE (List PV)
  | [], acc, env => if al env then .ok acc env else .bad
  | t :: ts, acc, env => if al env then (match g t env with
    | none => .bad
    | some e1 => match et e1 with
      | .ok b e2 => if b then (match ea e2 with
          | .ok (.tr x) e3 => if acc.length < LIM then compL g et ea vs al ts (acc ++ [x]) (wipeE e3 vs) else .bad
          | _ => .bad) else compL g et ea vs al ts acc (wipeE e2 vs)
      | _ => .bad) else .bad
@[simp] def fComp (ev : EvI) (g : Tg) (et : EvT) (ea : EvE) (vs : List Nat) : EvF := fun env => (ev env).bind fun (w : Wk) e0 =>
  if noOwn e0 vs then (match compL g et ea vs (alive w.at_ w.ts) w.ts [] (wipeE e0 vs) with
    | .ok acc e1 => .ok (.lst acc) (unW e0 e1 vs)
    | _ => .bad) else .bad
@[simp] def tYesT : EvT := fun env => .ok true env
abbrev W0 : WX := fun _ _ _ _ => False
section
variable {X : Cx} {c : TC} {r : Ref} {W : WX}
theorem PTs.imp {ifs : List Expr} {t t' : TT} (h : PTs X ifs t) (i : ∀ σ H Q, t' σ H Q → t σ H Q) : PTs X ifs t' := ⟨fun pins s σ H Q I q => h.run pins s σ H Q I (i σ H Q q)⟩
theorem tts_nil : PTs X [] (TTof c r W tYesT) := PTs.imp pts_nil fun σ H Q ⟨ads, G, env, R, h⟩ => h ads G H R (Nxt.refl _ _ _)
theorem tts_one {a : Expr} {et : EvT} (h : PT X a (TTof c r W et)) : PTs X [a] (TTof c r W et) := pts_one h
/-- a thing of ours that no slot owns is written -/
theorem RS.scratch {ads : Nat → List Addr} {G H : Hp} {σ : L2.St} {env : En} (R : RS c r ads G H σ env) {D : Addr} {ho ho' : HO} (n : New r ads G D) (hD : H D = some ho) : RS c r ads G (upd H D ho') σ env where
  step := R.step.trans (Step.write R.sub n.1 hD) fun x hx => by
    rw [List.mem_singleton.mp hx]
    exact .inr n.2.1
  len := R.len
  slot := fun j => (R.slot j).stay (Sub.refl _) fun b hb u e => by
    have ne : b ≠ D := fun q => n.2.2 j (by rw [← q]; exact hb)
    rw [upd_ne ne]; exact e
  own := R.own
  disj := R.disj
  pin := R.pin
/-- a comprehension's list at D, beside all else -/
structure Hx (D : Addr) (ads : Nat → List Addr) (G H : Hp) (ads1 : Nat → List Addr) (G1 H1 : Hp) : Prop where
  sub : Sub G G1
  hold : ∀ a o, a ≠ D → H a = some o → (∀ j, a ∉ ads j) → H1 a = some o ∧ (∀ j, a ∉ ads1 j) ∧ (G a = none → G1 a = none)
  there : ∀ a, a ≠ D → H1 a = none → H a = none
theorem Hx.step {D : Addr} {ads ads1 ads2 : Nat → List Addr} {G H G1 H1 G2 H2 : Hp} (a : Hx D ads G H ads1 G1 H1) (b : Nxt ads1 G1 H1 ads2 G2 H2) : Hx D ads G H ads2 G2 H2 :=
  ⟨a.sub.trans b.sub, fun x o n e m => let z := a.hold x o n e m; let y := b.hold x o z.1 z.2.1; ⟨y.1, y.2.1, fun q => y.2.2 (z.2.2 q)⟩, fun x n e => a.there x n (b.there x e)⟩
theorem Hx.put {D : Addr} {ads ads1 : Nat → List Addr} {G H G1 H1 : Hp} {ho : HO} (a : Hx D ads G H ads1 G1 H1) : Hx D ads G H ads1 G1 (upd H1 D ho) :=
  ⟨a.sub, fun x o n e m => by rw [upd_ne n]; exact a.hold x o n e m, fun x n e => by rw [upd_ne n] at e; exact a.there x n e⟩
theorem Hx.less {D : Addr} {ads ads1 ads2 : Nat → List Addr} {G H G1 H1 : Hp} (s : Hx D ads G H ads2 G1 H1) (h : ∀ j a, a ∈ ads1 j → a ∈ ads2 j) : Hx D ads G H ads1 G1 H1 :=
  ⟨s.sub, fun a o n e m => let z := s.hold a o n e m; ⟨z.1, fun j q => z.2.1 j (h j a q), z.2.2⟩, s.there⟩
theorem Hx.nxt {D : Addr} {ads ads1 : Nat → List Addr} {G H G1 H1 : Hp} (s : Hx D ads G H ads1 G1 H1) (hD : H D = none) : Nxt ads G H ads1 G1 H1 :=
  ⟨s.sub, fun a o e n => s.hold a o (fun z => by rw [z, hD] at e; cases e) e n, fun a e => by
    by_cases z : a = D
    · rw [z]; exact hD
    · exact s.there a z e⟩
theorem cutA_sub {ads : Nat → List Addr} {vs : List Nat} : ∀ j a, a ∈ cutA ads vs j → a ∈ ads j := fun j a m => by
  unfold cutA at m
  by_cases q : j ∈ vs
  · rw [if_pos q] at m; cases m
  · rw [if_neg q] at m; exact m
def compEnd (e0 : En) (vs : List Nat) (x : RE (List PV)) : RE OS := match x with
  | .ok acc e1 => .ok (.lst acc) (unW e0 e1 vs)
  | _ => .bad
/-- the reading of a comprehension -/
theorem lc_imp {ev : EvI} {us vs : List Nat} {g : Tg} {et : EvT} {ea : EvE} (hp : ∀ j ∈ vs, (r.pins.map Prod.fst).contains j = false) (hu : ∀ j ∈ us, j ∈ vs) {σ : L2.St} {H : Hp} {Q : VK} (h : TFof c r W (fComp ev g et ea vs) σ H Q) :
    tLc (TIof c r W ev) (TGof c r us g) (TTof c r W0 et) (TEof c r W0 ea) vs σ H Q := by
  obtain ⟨ads, G, env, R, h⟩ := h
  refine ⟨ads, G, env, R, Sat_mono (Sat_bind.mp h) (fun w e0 h1 ads1 G1 H1 J R1 s1 it D hD => ?_) fun _ _ z => z⟩
  obtain ⟨ts, at_⟩ := w
  by_cases no : noOwn e0 vs = true
  rotate_left
  · rw [if_neg no] at h1; exact h1.elim
  rw [if_pos no] at h1
  have h1 : (compEnd e0 vs (compL g et ea vs (alive at_ ts) ts [] (wipeE e0 vs))).Sat _ _ := h1
  have Ri := (R1.lay (ho := .lst []) hD).wipes hp
  have nw := New.of R1 hD
  have hx0 : Hx D ads1 G1 H1 (cutA ads1 vs) G1 (upd H1 D (.lst [])) :=
    (Hx.put ⟨Sub.refl _, fun a o n e m => ⟨e, m, id⟩, fun a n e => e⟩).less cutA_sub
  refine ⟨fun i m H' => m = ts.length - i ∧ ∃ ads' G' env' acc va, RS c r ads' G' H' (wipe σ vs) env' ∧ Hx D ads1 G1 H1 ads' G' H' ∧ H' D = some (.lst va) ∧ RepL c G' acc va ∧ New r ads' G' D ∧
    (compEnd e0 vs (compL g et ea vs (alive at_ ts) (ts.drop i) acc env')).Sat (fun o env' => ∀ ads' G' H' p ad, RS c r ads' G' H' σ env' → Nxt ads G H ads' G' H' → OwRep c G' H' p ad o → (∀ a ∈ ad, New r ads' G' a ∧ H a = none) → Q (.ref p) H') (XC c r W G σ),
    ⟨_, rfl, cutA ads1 vs, G1, _, [], [], Ri, hx0, upd_same, RepL.nil, ⟨nw.1, nw.2.1, fun j m => nw.2.2 j (cutA_sub j D m)⟩, h1⟩, ?_⟩
  rintro i m H2 ⟨rfl, ads2, G2, env2, acc, va, R2, s2, hDa, ra, nw2, h2⟩
  by_cases al : alive at_ ts env2 = true
  rotate_left
  · cases q : ts.drop i with
    | nil => rw [q, compL, if_neg al] at h2; exact h2.elim
    | cons t us => rw [q, compL, if_neg al] at h2; exact h2.elim
  obtain ⟨go, stop⟩ := it i ads2 G2 H2 _ env2 R2 s2.sub al
  cases q : ts[i]? with
  | none =>
    have hl : ts.length ≤ i := List.getElem?_eq_none_iff.mp q
    rw [List.drop_eq_nil_of_le hl, compL, if_pos al] at h2
    have sB := s2.nxt hD
    have RB := R1.back no R2 sB hp
    exact .inl ⟨stop hl, h2 (cutA ads2 vs) G2 H2 D [D] RB (s1.trans (sB.less cutA_sub)) ⟨rfl, va, hDa, ra⟩ fun a ha => by rw [List.mem_singleton.mp ha]; exact ⟨⟨nw2.1, nw2.2.1, fun j m => nw2.2.2 j (cutA_sub j D m)⟩, s1.there D hD⟩⟩
  | some t =>
    obtain ⟨g1, g2⟩ := go t q
    have hlt : i < ts.length := (List.getElem?_eq_some_iff.mp q).1
    have hd : ts.drop i = t :: ts.drop (i + 1) := by
      rw [List.drop_eq_getElem_cons hlt, (List.getElem?_eq_some_iff.mp q).2]
    rw [hd, compL, if_pos al] at h2
    refine .inr ⟨g1, fun H' => ∃ ads' G' env' acc va, RS c r ads' G' H' (wipe σ vs) env' ∧ Hx D ads1 G1 H1 ads' G' H' ∧ H' D = some (.lst va) ∧ RepL c G' acc va ∧ New r ads' G' D ∧
      (compEnd e0 vs (compL g et ea vs (alive at_ ts) (ts.drop (i + 1)) acc env')).Sat (fun o env' => ∀ ads' G' H' p ad, RS c r ads' G' H' σ env' → Nxt ads G H ads' G' H' → OwRep c G' H' p ad o → (∀ a ∈ ad, New r ads' G' a ∧ H a = none) → Q (.ref p) H') (XC c r W G σ), fun H' w => ⟨_, by omega, rfl, w⟩, fun x H' y => ?_⟩
    obtain ⟨G3, st, rx⟩ := g2 x H' y
    have R3 := R2.next st
    have x3 := s2.step (Nxt.of (ads := ads2) st)
    have dD := (Nxt.of (ads := ads2) st).hold D _ hDa nw2.2.2
    have nw3 : New r ads2 G3 D := ⟨dD.2.2 nw2.1, nw2.2.1, dD.2.1⟩
    cases qg : g t env2 with
    | none => rw [qg] at h2; exact h2.elim
    | some e3 =>
      rw [qg] at h2
      refine ⟨ads2, G3, env2, t, e3, R3, rx, qg, fun ads4 σ4 R4 l4 a4 b4 c4 => ?_⟩
      have sub4 : ∀ j a, a ∈ ads4 j → a ∈ ads2 j := fun j a m => by
        by_cases z : j ∈ us
        · rcases c4 j z with w | w
          · rw [w] at m; cases m
          · rw [w] at m; exact m
        · rw [b4 j z] at m; exact m
      have hw : wipe σ4 vs = wipe σ vs := wipe_same (fun j hj => a4 j fun z => hj (hu j z)) (by rw [l4, wipe_length])
      refine ⟨hw, ads4, G3, e3, R4, ?_⟩
      have x4 := x3.less sub4
      have nw4 : New r ads4 G3 D := ⟨nw3.1, nw3.2.1, fun j m => nw3.2.2 j (sub4 j D m)⟩
      simp only at h2
      cases qt : et e3 with
      | bad => rw [qt] at h2; exact h2.elim
      | exc x e => rw [qt] at h2; exact h2.elim
      | ok b e4 =>
        rw [qt] at h2
        simp only at h2
        intro ads5 G5 H5 R5 s5
        have x5 := x4.step s5
        have d5 := s5.hold D _ dD.1 nw4.2.2
        have nw5 : New r ads5 G5 D := ⟨d5.2.2 nw4.1, nw4.2.1, d5.2.1⟩
        have ra5 := ra.mono (st.sub.trans s5.sub)
        cases b with
        | false =>
          refine iteF ⟨cutA ads5 vs, G5, _, acc, va, ?_, x5.less cutA_sub, d5.1, ra5, ⟨nw5.1, nw5.2.1, fun j m => nw5.2.2 j (cutA_sub j D m)⟩, h2⟩
          have R6 := R5.wipes hp
          rw [hw] at R6
          exact R6
        | true =>
          refine iteT ⟨ads5, G5, e4, R5, ?_⟩
          simp only [if_true] at h2
          cases qe : ea e4 with
          | bad => rw [qe] at h2; exact h2.elim
          | exc x e => rw [qe] at h2; exact h2.elim
          | ok x e5 =>
            rw [qe] at h2
            cases x with
            | sl j => exact h2.elim
            | tr tx =>
              simp only at h2
              by_cases hl : acc.length < LIM
              rotate_left
              · rw [if_neg hl] at h2; exact h2.elim
              rw [if_pos hl] at h2
              intro ads6 G6 H6 v6 R6 s6 p6
              have x6 := x5.step s6
              have d6 := s6.hold D _ d5.1 nw5.2.2
              have nw6 : New r ads6 G6 D := ⟨d6.2.2 nw5.1, nw5.2.1, d6.2.1⟩
              have ra6 := ra5.mono s6.sub
              refine ⟨va, d6.1, by rw [ra.length]; exact Nat.lt_of_lt_of_le hl (lim_line (Nat.le_refl _)), cutA ads6 vs, G6, _, acc ++ [tx], va ++ [v6], ?_, x6.put.less cutA_sub, upd_same, ra6.append (RepL.one p6), ⟨nw6.1, nw6.2.1, fun j m => nw6.2.2 j (cutA_sub j D m)⟩, h2⟩
              have R7 := (R6.scratch (ho' := .lst (va ++ [v6])) nw6 d6.1).wipes hp
              rw [hw] at R7
              exact R7
end
end TreeL
end
section
/-! TL6: what a def promises, of trees (spF); calls of defs, methods, classes. -/
namespace TreeL
open PySem PySem.Spec PyProof.Rows L2

/-- what a def ends with: its result, and its arguments as they are then -/
inductive FR where
  | ret (a : Arg) (as : List Arg) | exc (x : EX) (as : List Arg) | bad
abbrev FSem := List Arg → FR
def ARep (c : TC) (G H : Hp) : List (List Addr) → List Arg → List V → Prop
  | [], [], [] => True
  | ad :: adl, a :: as, v :: vs => SlotRep c G H ad (some a) (some v) ∧ ARep c G H adl as vs
  | _, _, _ => False
def Apart (adl : List (List Addr)) : Prop := ∀ i j a, a ∈ adl.getD i [] → a ∈ adl.getD j [] → i = j
def FEnd (c : TC) (H G : Hp) (adl : List (List Addr)) (vs : List V) (Q : VK) (E : XK) : FR → Prop
  | .ret t as => ∀ H' G' v, Step adl.flatten H G H' G' → RetRep c H G' H' t v → ARep c G' H' adl as vs → Q v H'
  | .exc x as => ∀ H' G' cls d, Step adl.flatten H G H' G' → RepX c G' x cls d H' → ARep c G' H' adl as vs → E cls d H'
  | .bad => False
/-- a def's promise -/
def spF (c : TC) (n : Nat) (F : FSem) : Sp := fun vs H Q E => vs.length = n ∧ ∃ G args adl, Sub G H ∧ ARep c G H adl args vs ∧ Apart adl ∧ (∀ a ∈ adl.flatten, G a = none) ∧ FEnd c H G adl vs Q E (F args)
theorem spF_len {c : TC} {n : Nat} {F : FSem} : ∀ vs H Q E, spF c n F vs H Q E → vs.length = n := fun _ _ _ _ h => h.1

theorem ARep.lens {c : TC} {G H : Hp} : ∀ {adl : List (List Addr)} {as : List Arg} {vs : List V}, ARep c G H adl as vs → adl.length = as.length ∧ vs.length = as.length
  | [], [], [], _ => ⟨rfl, rfl⟩
  | _ :: _, _ :: _, _ :: _, ⟨_, h⟩ => by simp [(ARep.lens h).1, (ARep.lens h).2]
  | [], [], _ :: _, h => h.elim
  | [], _ :: _, _, h => by cases ‹List V› <;> exact h.elim
  | _ :: _, [], _, h => by cases ‹List V› <;> exact h.elim
  | _ :: _, _ :: _, [], h => h.elim
theorem ARep.at {c : TC} {G H : Hp} : ∀ {adl : List (List Addr)} {as : List Arg} {vs : List V} (i : Nat), ARep c G H adl as vs → SlotRep c G H (adl.getD i []) as[i]? vs[i]?
  | [], [], [], i, _ => by simp [SlotRep]
  | _ :: _, _ :: _, _ :: _, 0, ⟨h, _⟩ => by simpa using h
  | _ :: _, _ :: _, _ :: _, i + 1, ⟨_, h⟩ => by simpa using ARep.at i h
  | [], [], _ :: _, _, h => h.elim
  | [], _ :: _, _, _, h => by cases ‹List V› <;> exact h.elim
  | _ :: _, [], _, _, h => by cases ‹List V› <;> exact h.elim
  | _ :: _, _ :: _, [], _, h => h.elim
theorem ARep.of {c : TC} {G H : Hp} : ∀ {adl : List (List Addr)} {as : List Arg} {vs : List V}, adl.length = as.length → vs.length = as.length → (∀ i, i < as.length → SlotRep c G H (adl.getD i []) as[i]? vs[i]?) → ARep c G H adl as vs
  | [], [], [], _, _, _ => trivial
  | _ :: _, _ :: _, _ :: _, h1, h2, h => ⟨by simpa using h 0 (by simp), ARep.of (by simpa using h1) (by simpa using h2) fun i hi => by simpa using h (i + 1) (by simpa using hi)⟩
  | [], [], _ :: _, _, h, _ => by simp at h
  | [], _ :: _, _, h, _, _ => by simp at h
  | _ :: _, [], _, h, _, _ => by simp at h
  | _ :: _, _ :: _, [], _, h, _ => by simp at h
theorem ARep.append {c : TC} {G H : Hp} : ∀ {adl adl' : List (List Addr)} {as as' : List Arg} {vs vs' : List V}, ARep c G H adl as vs → ARep c G H adl' as' vs' → ARep c G H (adl ++ adl') (as ++ as') (vs ++ vs')
  | [], _, [], _, [], _, _, h => h
  | _ :: _, _, _ :: _, _, _ :: _, _, ⟨a, h⟩, h' => ⟨a, ARep.append h h'⟩
  | [], _, [], _, _ :: _, _, h, _ => h.elim
  | [], _, _ :: _, _, _, _, h, _ => by cases ‹List V› <;> exact h.elim
  | _ :: _, _, [], _, _, _, h, _ => by cases ‹List V› <;> exact h.elim
  | _ :: _, _, _ :: _, _, [], _, h, _ => h.elim

/-! ### room, and no guard stands -/
structure RoomG (k : Nat) (A : Around) : Prop where
  rm : Room k A
  gd : A.guards = some []
theorem RoomG.mono {j k : Nat} {A : Around} (r : RoomG k A) (h : j ≤ k) : RoomG j A := ⟨r.rm.mono h, r.gd⟩
theorem RoomG.deeper {k : Nat} {A : Around} (r : RoomG (k + 1) A) (env : Env) : RoomG k (A.deeper env) := ⟨r.rm.deeper env, r.gd⟩
theorem RoomG.in1 {k : Nat} {A : Around} (r : RoomG (k + 1) A) : RoomG k A.in1 := ⟨r.rm.in1, r.gd⟩
theorem RoomG.make {k : Nat} {A : Around} (r : RoomG (k + 1) A) (C : Addr) (us : List Value) (kw : List (Str × Value)) : RoomG k (A.under (.builtin "type.__call__" ⟨.ref C :: us, kw⟩)) := ⟨r.rm.make C us kw, by
  have e : (Code.builtin "type.__call__" ⟨.ref C :: us, kw⟩).guards = [] := by
    unfold Code.guards
    rw [if_neg (by simp [Code.isGuard, guardIds])]
  show pushGuards (Code.builtin "type.__call__" ⟨.ref C :: us, kw⟩).guards A.guards = some []
  rw [e]
  exact r.gd⟩
/-- a def keeps its promise wherever there is room and no guard stands -/
structure FnG (P : Program) (w : World) (K : PySem.W.Frag) (mg : Str → Option Value) (base : Heap) (k : Nat) (f : Addr) (fd : FuncData) (ps : List Str) (sp : Sp) : Prop where
  len : ∀ vs H Q E, sp vs H Q E → vs.length = ps.length
  run : ∀ (A : Around) (l : List Env) (st : Shared) (H : Hp) (ar : Args) (us : List Value) (vs : List V) (Q : VK) (E : XK), RoomG k A → Env0 P w K mg base A l st H → BindsTo st fd ar (ps.zip us) → Vals vs us → sp vs H Q E →
    codeAny (model P w) A (.call (.ref f) ar) (CR (L2.CX P w) l P w H st Q E) st
theorem FnG.mono {P : Program} {w : World} {K : PySem.W.Frag} {mg : Str → Option Value} {base : Heap} {j k : Nat} {f : Addr} {fd : FuncData} {ps : List Str} {sp : Sp} (F : FnG P w K mg base j f fd ps sp) (h : j ≤ k) : FnG P w K mg base k f fd ps sp := ⟨F.len, fun A l st H ar us vs Q E hr => F.run A l st H ar us vs Q E (hr.mono h)⟩
theorem fnG_of {P : Program} {w : World} {K : PySem.W.Frag} {mg : Str → Option Value} {base : Heap} {x qual : Str} {params : Arguments} {body : List Stmt} {scope : Scope} {dvs : List V} {kws : List (Str × V)} {f : Addr} {fd : FuncData} {N ps : List Str} {k : Nat} {sp : Sp} (F : FunD K x qual params body scope dvs kws f fd) (S : FnScope N ps scope)
    (len : ∀ vs H Q E, sp vs H Q E → vs.length = ps.length)
    (hbody : ∀ (cdv : Value) (A : Around) (l : List Env) (st : Shared) (H : Hp) (vs : List V) (Q : VK) (E : XK), RoomG k (A.deeper (envOfC qual scope st.heap.objs.size f cdv)) → sp vs H Q E →
      ∃ t, PSs (cxOf (L2.CX P w) P w K mg base N qual scope f cdv A l st H E) body t ∧ t { nx := fun _ H' => Q .non H', rt := Q } (L2.start N vs) H) : FnG P w K mg base (k + 1) f fd ps sp := by
  obtain ⟨oc, od, dV, kV, doc, pm, an, cdv, ct, osl, rfl, lk, hcd, _, _⟩ := F.ex
  refine ⟨len, fun A l st H ar us vs Q E hr e0 hb rv hsp => ?_⟩
  have kin : K.In st.heap := e0.mod.kin.keeps fun b o e => (e0.bs b o e).1
  have nol : st.heap.NoLimit := e0.mod.nolimit.keeps fun b o e => (e0.bs b o e).1
  have kinds : ∀ y ∈ ps.zip us, scope.names.lookup y.1 = some .local ∨ (scope.names.lookup y.1 = some .cell ∧ ((cellsFrom (st.heap.objs.size + 1) scope.names []).lookup y.1).isSome = true) := fun ⟨n, v⟩ hy => by
    rcases S.par n (List.of_mem_zip hy).1 with q | q
    · exact .inl q
    · exact .inr ⟨q, PySem.W.cellsFrom_some _ _ _ (.inl q)⟩
  refine codeAny_call_function hr.rm.depth (kin _ _ lk) rfl S.co S.gen rfl (PySem.W.codeRec_of kin hcd) (hb _ _ _ _ ?_)
  refine wpAny_newFunctionEnv_cells S.kind kinds fun env he s1 xc => ?_
  subst he
  refine ⟨nol.keeps xc.toInCall.keep, codeAny_func ?_⟩
  obtain ⟨t, ht, hq⟩ := hbody cdv A l st H vs Q E (hr.deeper _) hsp
  have J : Inv (cxOf (L2.CX P w) P w K mg base N qual scope f cdv A l st H E) [] (L2.start N vs) H s1 := inv_start S hr.rm.hd e0 (len _ _ _ _ hsp) rv xc
  refine wpAny_mono (ht.run [] s1 (L2.start N vs) H _ J hq) (fun fl s' hs => ?_) fun e s' hs => hs
  match fl, hs with
  | .ret u, ⟨v, σ', H', J', rv', q⟩ => exact ⟨v, H', J'.os, J'.bare, J'.base, J'.hok, rv', q⟩
  | .next, ⟨σ', H', J', q⟩ => exact ⟨.non, H', J'.os, J'.bare, J'.base, J'.hok, rfl, q⟩
  | .brk, ⟨_, _, _, q⟩ => exact q.elim
  | .cont, ⟨_, _, _, q⟩ => exact q.elim
/-- the def runs, in the context or deeper -/
theorem runG {X : Cx} {k : Nat} {f : Addr} {fd : FuncData} {ps : List Str} {A' : Around} {sp : Sp} {E : XK} {dw : List Value} {dvs : List V} (hF : FnG X.prog X.w X.K X.mg X.base k f fd ps sp) (hb : Binds X.K fd ps dw) (hd : Vals dvs dw) (hr : RoomG k A') (hfr : A'.frames = some X.stack) {pins : List (Addr × Obj)} {st : Shared} {σ : L2.St} {H : Hp} {us : List Value} {vs : List V} {Q : VK}
    (hx : PassesAt (L2.CX X.prog X.w) X σ E) (I : Inv X pins σ H st) (rv : Vals vs us) (h : sp (vs ++ dvs) H Q E) : wpAny (model X.prog X.w) A' (call (.ref f) us) (EP X pins σ Q) X.xe st := by
  have e := I.env0
  have e0 : Env0 X.prog X.w X.K X.mg X.base A' X.stack st H := ⟨hfr, e.mod, e.bs, e.bsz, e.funs, e.frf, e.hok, e.bare⟩
  have rv2 : Vals (vs ++ dvs) (us ++ dw) := rv.append hd
  have hl : (us ++ dw).length = ps.length := by rw [← rv2.length]; exact hF.len _ _ _ _ h
  refine wpAny_call (codeAny_mono (hF.run A' X.stack st H ⟨us, []⟩ _ _ Q E hr e0 (hb st us I.kIn hl) rv2 h) fun z s' hq => ?_)
  match z, hq with
  | .error e, hq => exact hx pins H st e s' I hq
  | .ok (.ret u), hq => exact I.after hq
  | .ok .next, hq => exact hq.elim
  | .ok .brk, hq => exact hq.elim
  | .ok .cont, hq => exact hq.elim

/-! ### a def by its body -/
@[simp] def upA : Arg → Option Arg → Arg
  | .ow _, some (.ow o) => .ow o
  | a, _ => a
@[simp] def upArgs : List Arg → En → List Arg
  | [], _ => []
  | a :: as, [] => a :: as
  | a :: as, e :: es => upA a e :: upArgs as es
theorem upArgs_length : ∀ (as : List Arg) (e : En), (upArgs as e).length = as.length
  | [], _ => rfl
  | _ :: _, [] => rfl
  | _ :: as, _ :: es => by simp [upArgs, upArgs_length as es]
theorem upArgs_at : ∀ (as : List Arg) (e : En) (i : Nat) (a : Arg), as[i]? = some a → (upArgs as e)[i]? = some (upA a (e[i]?.join))
  | _ :: _, [], i, a, h => by
    rw [upArgs, h]
    cases a <;> simp [upA]
  | _ :: _, _ :: _, 0, a, h => by
    simp at h
    subst h
    simp [upArgs]
  | _ :: as, _ :: es, i + 1, a, h => by simpa [upArgs] using upArgs_at as es i a (by simpa using h)
/-- owned arguments only where the parameter stays -/
@[simp] def okArgs (pn : List Nat) : Nat → List Arg → Bool
  | _, [] => true
  | i, .t _ :: as => okArgs pn (i + 1) as
  | i, .ow _ :: as => pn.contains i && okArgs pn (i + 1) as
theorem okArgs_at {pn : List Nat} : ∀ {as : List Arg} {i j : Nat} {o : OS}, okArgs pn i as = true → as[j]? = some (.ow o) → pn.contains (i + j) = true
  | .t _ :: as, i, 0, o, h, e => by simp at e
  | .ow _ :: as, i, 0, o, h, e => by
    simp only [okArgs, Bool.and_eq_true] at h
    exact h.1
  | .t _ :: as, i, j + 1, o, h, e => by
    have z := okArgs_at (as := as) (i := i + 1) (j := j) h (by simpa using e)
    have q : i + 1 + j = i + (j + 1) := by omega
    rw [← q]; exact z
  | .ow _ :: as, i, j + 1, o, h, e => by
    simp only [okArgs, Bool.and_eq_true] at h
    have z := okArgs_at (as := as) (i := i + 1) (j := j) h.2 (by simpa using e)
    have q : i + 1 + j = i + (j + 1) := by omega
    rw [← q]; exact z
  | [], _, _, _, _, e => by simp at e
@[simp] def env0 (n : Nat) (args : List Arg) : En := args.map some ++ List.replicate (n - args.length) none
/-- n: how many names; pn: the parameters that stay -/
def fDef (n : Nat) (pn : List Nat) (body : EvS) : FSem := fun args => if okArgs pn 0 args then (match body (env0 n args) with
  | .nx e => .ret (.t .non) (upArgs args e)
  | .rt a e => .ret a (upArgs args e)
  | .exc x e => .exc x (upArgs args e)
  | _ => .bad) else .bad
def refOf (H G : Hp) (pn : List Nat) (adl : List (List Addr)) (vs : List V) : Ref := ⟨H, G, adl.flatten, pn.map fun i => (i, vs.getD i .non, adl.getD i [])⟩
theorem refOf_pins {H G : Hp} {pn : List Nat} {adl : List (List Addr)} {vs : List V} : (refOf H G pn adl vs).pins.map Prod.fst = pn := by
  show (pn.map fun i => (i, vs.getD i .non, adl.getD i [])).map Prod.fst = pn
  rw [List.map_map]
  exact List.map_id' _
theorem starts_at {N : List Str} {vs : List V} {i : Nat} : (L2.start N vs)[i]?.join = vs[i]? := by
  unfold L2.start
  by_cases h : i < vs.length
  · rw [List.getElem?_append_left (by simpa using h), List.getElem?_map]
    cases vs[i]? <;> rfl
  · rw [List.getElem?_append_right (by simpa using Nat.le_of_not_lt h), List.getElem?_replicate, List.getElem?_eq_none (Nat.le_of_not_lt h)]
    split <;> rfl
theorem env0_at {n : Nat} {args : List Arg} {i : Nat} : (env0 n args)[i]?.join = args[i]? := by
  unfold env0
  by_cases h : i < args.length
  · rw [List.getElem?_append_left (by simpa using h), List.getElem?_map]
    cases args[i]? <;> rfl
  · rw [List.getElem?_append_right (by simpa using Nat.le_of_not_lt h), List.getElem?_replicate, List.getElem?_eq_none (Nat.le_of_not_lt h)]
    split <;> rfl
section
variable {c : TC} {G H : Hp} {N : List Str} {pn : List Nat} {adl : List (List Addr)} {args : List Arg} {vs : List V}
theorem mem_flatten_getD {a : Addr} {i : Nat} (h : a ∈ adl.getD i []) : a ∈ adl.flatten := by
  rw [List.getD_eq_getElem?_getD] at h
  cases q : adl[i]? with
  | none => rw [q] at h; cases h
  | some l =>
    rw [q] at h
    exact List.mem_flatten.mpr ⟨l, List.mem_of_getElem? q, h⟩
theorem RS.begin (s : Sub G H) (ar : ARep c G H adl args vs) (ap : Apart adl) (gn : ∀ a ∈ adl.flatten, G a = none) (ok : okArgs pn 0 args = true) (hl : vs.length ≤ N.length) (hpn : ∀ i ∈ pn, i < vs.length) :
    RS c (refOf H G pn adl vs) (fun i => adl.getD i []) G H (L2.start N vs) (env0 N.length args) where
  step := Step.refl s
  len := by
    unfold env0 L2.start
    have := ar.lens
    simp only [List.length_append, List.length_map, List.length_replicate]
    omega
  slot := fun i => by rw [starts_at, env0_at]; exact ar.at i
  own := fun i a ha => by
    have m := mem_flatten_getD ha
    refine ⟨gn a m, .inl ⟨?_, m⟩⟩
    rw [refOf_pins]
    have z := ar.at i
    cases q : args[i]? with
    | none => rw [q] at z; rw [z] at ha; cases ha
    | some x =>
      rw [q] at z
      cases x with
      | t t =>
        cases w : vs[i]? with
        | none => rw [w] at z; exact (show False from z).elim
        | some v => rw [w] at z; rw [z.1] at ha; cases ha
      | ow o =>
        have y := okArgs_at ok q
        rw [Nat.zero_add] at y
        exact List.contains_iff_mem.mp y
  disj := fun i j a h1 h2 => ap i j a h1 h2
  pin := fun q hq => by
    obtain ⟨i, hi, rfl⟩ := List.mem_map.mp hq
    refine ⟨?_, rfl⟩
    have lt := hpn i hi
    unfold L2.start
    rw [List.getElem?_append_left (by simpa using lt), List.getElem?_map, List.getElem?_eq_getElem lt]
    simp [List.getD_eq_getElem?_getD, List.getElem?_eq_getElem lt]
theorem RS.ended {H' G' : Hp} {ads' : Nat → List Addr} {σ' : L2.St} {env' : En} (ar : ARep c G H adl args vs) (ok : okArgs pn 0 args = true) (R : RS c (refOf H G pn adl vs) ads' G' H' σ' env') : ARep c G' H' adl (upArgs args env') vs := by
  have l := ar.lens
  refine ARep.of (by rw [upArgs_length]; exact l.1) (by rw [upArgs_length]; exact l.2) fun i hi => ?_
  rw [upArgs_length] at hi
  have z := ar.at i
  have hx : args[i]? = some args[i] := List.getElem?_eq_getElem hi
  rw [upArgs_at args env' i _ hx]
  rw [hx] at z
  have hv : vs[i]? = some (vs[i]'(by omega)) := List.getElem?_eq_getElem (by omega)
  rw [hv] at z ⊢
  cases q : args[i] with
  | t t =>
    rw [q] at z
    have e : upA (.t t) (env'[i]?.join) = .t t := by simp [upA]
    rw [e]
    exact ⟨z.1, z.2.mono R.step.sub⟩
  | ow o =>
    rw [q] at z hx
    obtain ⟨p, e0, ow⟩ := z
    have y := okArgs_at ok hx
    rw [Nat.zero_add] at y
    have pin := R.pin (i, vs.getD i .non, adl.getD i []) (List.mem_map.mpr ⟨i, List.contains_iff_mem.mp y, rfl⟩)
    have pin1 : σ'[i]? = some (some (vs.getD i .non)) := pin.1
    have pin2 : ads' i = adl.getD i [] := pin.2
    have ev : vs.getD i .non = vs[i]'(by omega) := by rw [List.getD_eq_getElem?_getD, hv]; rfl
    have sl := R.slot i
    rw [pin1, pin2, ev] at sl
    have pm : p ∈ adl.getD i [] := by
      cases o with
      | lst _ => rw [ow.1]; exact List.mem_singleton.mpr rfl
      | dct _ _ => rw [ow.1]; exact List.mem_singleton.mpr rfl
      | ins _ _ => rw [ow.1]; exact List.mem_singleton.mpr rfl
      | boxD _ _ => obtain ⟨q, e, _⟩ := ow; rw [e]; exact List.mem_cons_self
      | boxL _ _ => obtain ⟨q, e, _⟩ := ow; rw [e]; exact List.mem_cons_self
    cases w : env'[i]?.join with
    | none => rw [w] at sl; rw [show adl.getD i [] = [] from sl] at pm; cases pm
    | some a =>
      rw [w] at sl
      cases a with
      | t t => rw [show adl.getD i [] = [] from sl.1] at pm; cases pm
      | ow o' => exact sl
end
section
variable {P : Program} {w : World} {K : PySem.W.Frag} {mg : Str → Option Value} {base : Heap} {x qual : Str} {params : Arguments} {body : List Stmt} {scope : Scope} {dvs : List V} {kws : List (Str × V)} {f : Addr} {fd : FuncData}
/-- the facts of a def's own context -/
structure DefCx (P : Program) (w : World) (K : PySem.W.Frag) (mg : Str → Option Value) (base : Heap) (N : List Str) (scope : Scope) (k : Nat) (pn : List Nat) (X : Cx) (r : Ref) (W : WX) : Prop where
  prog : X.prog = P
  w : X.w = w
  K : X.K = K
  mg : X.mg = mg
  base : X.base = base
  N : X.N = N
  sc : X.env.scope = scope
  calm : X.calm = true
  fn : X.fn = fun _ => true
  room : RoomG k X.A
  takes : Takes X W
  owns : PassesOwn (model X.prog X.w) X.A X.env X.xe
  pins : r.pins.map Prod.fst = pn
/-- THE RULE: a def, by its body's tree function -/
theorem fn_tree {c : TC} {N ps : List Str} {k : Nat} {pn : List Nat} {xs : EvS} (F : FunD K x qual params body scope dvs kws f fd) (S : FnScope N ps scope) (hpn : ∀ i ∈ pn, i < ps.length)
    (hbody : ∀ (cdv : Value) (A : Around) (outer : List Env) (s : Shared) (H : Hp) (E : XK) (r : Ref), let X := cxOf (L2.CX P w) P w K mg base N qual scope f cdv A outer s H E; RoomG k X.A → r.pins.map Prod.fst = pn → Takes X (fun cls d _ H' => E cls d H') → PassesOwn (model X.prog X.w) X.A X.env X.xe →
      PSs X body (TSof c r (fun cls d _ H' => E cls d H') xs)) : FnG P w K mg base (k + 1) f fd ps (spF c ps.length (fDef N.length pn xs)) := by
  refine fnG_of F S spF_len fun cdv A outer s H vs Q E hr ⟨hl, G, args, adl, sb, ar, ap, gn, he⟩ => ?_
  have tk : Takes (cxOf (L2.CX P w) P w K mg base N qual scope f cdv A outer s H E) (fun cls d _ H' => E cls d H') := takes_of rfl rfl rfl rfl
  have po : PassesOwn (model P w) (cxOf (L2.CX P w) P w K mg base N qual scope f cdv A outer s H E).A (cxOf (L2.CX P w) P w K mg base N qual scope f cdv A outer s H E).env (cxOf (L2.CX P w) P w K mg base N qual scope f cdv A outer s H E).xe := passes_of rfl
  refine ⟨_, hbody cdv A outer s H E (refOf H G pn adl vs) hr refOf_pins tk po, ?_⟩
  have hpl : ps.length ≤ N.length := by have := congrArg List.length S.pre; rw [List.length_take] at this; omega
  unfold fDef at he
  by_cases ok : okArgs pn 0 args = true
  rotate_left
  · rw [if_neg ok] at he; exact he.elim
  rw [if_pos ok] at he
  refine ⟨_, G, _, RS.begin sb ar ap gn ok (by omega) (by rw [hl]; exact hpn), ?_⟩
  cases q : xs (env0 N.length args) with
  | nx e =>
    rw [q] at he
    exact fun ads' G' H' σ' R s' => he H' G' .non R.step (by simp [RetRep, Rep]) (RS.ended ar ok R)
  | rt a e =>
    rw [q] at he
    exact fun ads' G' H' σ' v R s' rr => he H' G' v R.step rr (RS.ended ar ok R)
  | exc x e =>
    rw [q] at he
    exact fun ads' G' H' σ' cls d R s' rx => he H' G' cls d R.step rx (RS.ended ar ok R)
  | bk e => rw [q] at he; exact he.elim
  | ct e => rw [q] at he; exact he.elim
  | bad => rw [q] at he; exact he.elim
end

/-! ### calls -/
@[simp] def argOf (env : En) : Vl → Option Arg
  | .tr t => some (.t t)
  | .sl i => env[i]?.join
@[simp] def argsOf (env : En) : List Vl → Option (List Arg)
  | [] => some []
  | x :: xs => match argOf env x, argsOf env xs with
    | some a, some as => some (a :: as)
    | _, _ => none
/-- no slot twice -/
@[simp] def slotsOf : List Vl → List Nat
  | [] => []
  | .tr _ :: xs => slotsOf xs
  | .sl i :: xs => i :: slotsOf xs
@[simp] def noTwice : List Nat → Bool
  | [] => true
  | i :: l => !l.contains i && noTwice l
@[simp] def putArgs : List Vl → List Arg → En → En
  | x :: xs, a :: as, env => match x, a with
    | .sl i, .ow o => (putArgs xs as env).set i (some (.ow o))
    | _, _ => putArgs xs as env
  | _, _, env => env
def adOf (ads : Nat → List Addr) : Vl → List Addr
  | .tr _ => []
  | .sl i => ads i
theorem putArgs_length : ∀ (xs : List Vl) (as : List Arg) (env : En), (putArgs xs as env).length = env.length
  | [], _, _ => rfl
  | _ :: _, [], _ => rfl
  | .tr _ :: xs, _ :: as, env => putArgs_length xs as env
  | .sl i :: xs, .t _ :: as, env => putArgs_length xs as env
  | .sl i :: xs, .ow o :: as, env => by
    show ((putArgs xs as env).set i (some (.ow o))).length = _
    rw [List.length_set, putArgs_length xs as env]
theorem slotsOf_mem {i : Nat} : ∀ {xs : List Vl}, i ∈ slotsOf xs ↔ Vl.sl i ∈ xs
  | [] => by simp [slotsOf]
  | .tr _ :: xs => by simp [slotsOf, slotsOf_mem (xs := xs)]
  | .sl j :: xs => by simp [slotsOf, slotsOf_mem (xs := xs)]
section
variable {c : TC} {r : Ref} {ads : Nat → List Addr} {G H G1 H1 : Hp} {σ : L2.St} {env : En} {xs : List Vl} {vs : List V} {args as : List Arg}
theorem RS.arep (R : RS c r ads G H σ env) : ∀ {xs : List Vl} {vs : List V} {args : List Arg}, VReps c σ G xs vs → argsOf env xs = some args → ARep c G H (xs.map (adOf ads)) args vs
  | [], _, _, h, e => by cases h; cases e; trivial
  | x :: xs, _, args, ⟨v, u, e1, h, t⟩, e => by
    subst e1
    simp only [argsOf] at e
    cases q : argOf env x with
    | none => rw [q] at e; cases e
    | some a =>
      rw [q] at e
      cases q2 : argsOf env xs with
      | none => rw [q2] at e; cases e
      | some as =>
        rw [q2] at e
        cases e
        refine ⟨?_, RS.arep R t q2⟩
        cases x with
        | tr t => cases q; exact ⟨rfl, h⟩
        | sl i =>
          have z := R.slot i
          rw [show σ[i]? = some (some v) from h, show env[i]?.join = some a from q] at z
          exact z
theorem RS.apart (R : RS c r ads G H σ env) : ∀ {xs : List Vl}, noTwice (slotsOf xs) = true → Apart (xs.map (adOf ads)) ∧ (∀ i a, a ∈ (xs.map (adOf ads)).getD i [] → ∃ j, j ∈ slotsOf xs ∧ a ∈ ads j)
  | [], _ => ⟨fun i j a h => by simp at h, fun i a h => by simp at h⟩
  | .tr t :: xs, h => by
    obtain ⟨h1, h2⟩ := RS.apart R (xs := xs) h
    refine ⟨fun i j a ha hb => ?_, fun i a ha => ?_⟩
    · cases i with
      | zero => simp [adOf] at ha
      | succ i =>
        cases j with
        | zero => simp [adOf] at hb
        | succ j => rw [h1 i j a (by simpa using ha) (by simpa using hb)]
    · cases i with
      | zero => simp [adOf] at ha
      | succ i => exact h2 i a (by simpa using ha)
  | .sl k :: xs, h => by
    simp only [slotsOf, noTwice, Bool.and_eq_true, Bool.not_eq_true'] at h
    obtain ⟨h1, h2⟩ := RS.apart R (xs := xs) h.2
    have no : ∀ j a, a ∈ (xs.map (adOf ads)).getD j [] → a ∉ ads k := fun j a ha hb => by
      obtain ⟨m, m1, m2⟩ := h2 j a ha
      have e := R.disj m k a m2 hb
      subst e
      rw [List.contains_iff_mem.mpr m1] at h
      cases h.1
    refine ⟨fun i j a ha hb => ?_, fun i a ha => ?_⟩
    · cases i with
      | zero =>
        cases j with
        | zero => rfl
        | succ j => exact absurd (by simpa [adOf] using ha) (no j a (by simpa using hb))
      | succ i =>
        cases j with
        | zero => exact absurd (by simpa [adOf] using hb) (no i a (by simpa using ha))
        | succ j => rw [h1 i j a (by simpa using ha) (by simpa using hb)]
    · cases i with
      | zero => exact ⟨k, List.mem_cons_self, by simpa [adOf] using ha⟩
      | succ i =>
        obtain ⟨m, m1, m2⟩ := h2 i a (by simpa using ha)
        exact ⟨m, List.mem_cons_of_mem _ m1, m2⟩
theorem mem_adOf {a : Addr} (h : a ∈ (xs.map (adOf ads)).flatten) : ∃ i, Vl.sl i ∈ xs ∧ a ∈ ads i := by
  obtain ⟨l, h1, h2⟩ := List.mem_flatten.mp h
  obtain ⟨x, h3, rfl⟩ := List.mem_map.mp h1
  cases x with
  | tr _ => cases h2
  | sl i => exact ⟨i, h3, h2⟩
theorem put_slot (hl : env.length = σ.length) : ∀ {xs : List Vl} {as : List Arg} {vs : List V}, VReps c σ G xs vs → ARep c G1 H1 (xs.map (adOf ads)) as vs → ∀ j,
    ((putArgs xs as env)[j]? = env[j]? ∧ (Vl.sl j ∈ xs → ads j = [])) ∨ SlotRep c G1 H1 (ads j) ((putArgs xs as env)[j]?.join) (σ[j]?.join)
  | [], as, vs, _, _, j => by cases as <;> exact .inl ⟨rfl, fun h => nomatch h⟩
  | x :: xs, [], _, ⟨_, _, e, _⟩, h, j => by subst e; exact h.elim
  | .tr t :: xs, a :: as, _, ⟨v, u, e, h, ht⟩, ha, j => by
    subst e
    rcases put_slot hl ht ha.2 j with ⟨z1, z2⟩ | z
    · refine .inl ⟨z1, fun m => ?_⟩
      rcases List.mem_cons.mp m with y | y
      · cases y
      · exact z2 y
    · exact .inr z
  | .sl i :: xs, .t t :: as, _, ⟨v, u, e, h, ht⟩, ha, j => by
    subst e
    rcases put_slot hl ht ha.2 j with ⟨z1, z2⟩ | z
    · refine .inl ⟨z1, fun m => ?_⟩
      rcases List.mem_cons.mp m with y | y
      · cases y
        exact ha.1.1
      · exact z2 y
    · exact .inr z
  | .sl i :: xs, .ow o :: as, _, ⟨v, u, e, h, ht⟩, ha, j => by
    subst e
    have hs : σ[i]? = some (some v) := h
    have lt : i < (putArgs xs as env).length := by
      rw [putArgs_length, hl]
      exact (List.getElem?_eq_some_iff.mp hs).1
    show (((putArgs xs as env).set i (some (.ow o)))[j]? = env[j]? ∧ _) ∨ SlotRep c G1 H1 (ads j) (((putArgs xs as env).set i (some (.ow o)))[j]?.join) (σ[j]?.join)
    by_cases q : i = j
    · subst q
      refine .inr ?_
      rw [join_set_self lt, hs]
      exact ha.1
    · rw [join_set_ne q, List.getElem?_set_ne q]
      rcases put_slot hl ht ha.2 j with ⟨z1, z2⟩ | z
      · refine .inl ⟨z1, fun m => ?_⟩
        rcases List.mem_cons.mp m with y | y
        · cases y; exact absurd rfl q
        · exact z2 y
      · exact .inr z
/-- behind a call with the values xs -/
theorem RS.call {B : List Addr} (R : RS c r ads G H σ env) (pv : VReps c σ G xs vs) (st : Step B H G H1 G1) (hB : ∀ a ∈ B, (∃ i, Vl.sl i ∈ xs ∧ a ∈ ads i) ∨ H a = none) (ar : ARep c G1 H1 (xs.map (adOf ads)) as vs) :
    RS c r ads G1 H1 σ (putArgs xs as env) where
  step := R.step.trans st fun a ha => by
    rcases hB a ha with ⟨i, _, z⟩ | z
    · rcases (R.own i a z).2 with y | y
      · exact .inl y.2
      · exact .inr y
    · exact .inr (R.step.there a z)
  len := by rw [putArgs_length]; exact R.len
  slot := fun j => by
    rcases put_slot R.len pv ar j with ⟨z1, z2⟩ | z
    · rw [z1]
      refine (R.slot j).stay st.sub fun a ha u e => st.keep a u (fun hb => ?_) e
      rcases hB a hb with ⟨i, m, y⟩ | y
      · have e' := R.disj i j a y ha
        subst e'
        rw [z2 m] at ha; cases ha
      · rw [y] at e; cases e
    · exact z
  own := fun i a h => by
    refine ⟨?_, (R.own i a h).2⟩
    cases e : G1 a with
    | none => rfl
    | some u =>
      rcases st.new a u e with z | z
      · rw [(R.own i a h).1] at z; cases z
      · obtain ⟨u', e'⟩ := R.ownSome h
        rw [z] at e'; cases e'
  disj := R.disj
  pin := R.pin
theorem RS.callNxt {B : List Addr} (R : RS c r ads G H σ env) (st : Step B H G H1 G1) (hB : ∀ a ∈ B, (∃ i, Vl.sl i ∈ xs ∧ a ∈ ads i) ∨ H a = none) : Nxt ads G H ads G1 H1 where
  sub := st.sub
  hold := fun a o e n => by
    refine ⟨st.keep a o (fun hb => ?_) e, n, fun q => ?_⟩
    · rcases hB a hb with ⟨i, _, y⟩ | y
      · exact n i y
      · rw [y] at e; cases e
    · cases z : G1 a with
      | none => rfl
      | some u =>
        rcases st.new a u z with y | y
        · rw [q] at y; cases y
        · rw [e] at y; cases y
  there := st.there
theorem ARep.trs {G H : Hp} : ∀ {ts : List PV} {vs : List V}, RepL c G ts vs → ARep c G H (ts.map fun _ => []) (ts.map Arg.t) vs
  | [], _, h => by cases h; trivial
  | _ :: _, _, ⟨v, r, e, h, t⟩ => by subst e; exact ⟨⟨rfl, h⟩, ARep.trs t⟩
theorem ARep.cutF {G H : Hp} : ∀ {adl adl' : List (List Addr)} {as : List Arg} {vs vs' : List V}, adl.length = vs.length → ARep c G H (adl ++ adl') as (vs ++ vs') → ARep c G H adl (as.take vs.length) vs
  | [], _, _, [], _, _, _ => by simp; trivial
  | _ :: adl, _, [], _ :: vs, _, _, h => h.elim
  | _ :: adl, _, _ :: as, _ :: vs, _, l, h => ⟨h.1, ARep.cutF (by simpa using l) h.2⟩
  | [], _, _, _ :: _, _, l, _ => by simp at l
  | _ :: _, _, _, [], _, l, _ => by simp at l
theorem flatten_nils {α β : Type} : ∀ (ts : List α), (ts.map fun _ => ([] : List β)).flatten = []
  | [] => rfl
  | _ :: ts => by simpa using flatten_nils ts
theorem apart_nils {adl : List (List Addr)} {α : Type} {ts : List α} (h : Apart adl) : Apart (adl ++ ts.map fun _ => []) := by
  have e : ∀ i, (adl ++ ts.map fun _ => ([] : List Addr)).getD i [] = adl.getD i [] := fun i => by
    rw [List.getD_eq_getElem?_getD, List.getD_eq_getElem?_getD]
    by_cases lt : i < adl.length
    · rw [List.getElem?_append_left lt]
    · rw [List.getElem?_append_right (Nat.le_of_not_lt lt), List.getElem?_eq_none (Nat.le_of_not_lt lt), List.getElem?_map]
      cases ts[i - adl.length]? <;> rfl
  intro i j a h1 h2
  rw [e] at h1 h2
  exact h i j a h1 h2
end

/-- f(..): n how many parameters, ds the defaults that fill up -/
@[simp] def okCall (n : Nat) (ds : List PV) (xs : List Vl) : Bool := noTwice (slotsOf xs) && xs.length + ds.length == n
@[simp] def rCall (n : Nat) (F : FSem) (ds : List PV) (el : EvA) : EvR := fun env => (el env).bind fun xs e => if okCall n ds xs then (match argsOf e xs with
  | none => .bad
  | some args => match F (args ++ ds.map Arg.t) with
    | .ret a as => .ok a (putArgs xs (as.take xs.length) e)
    | .exc x as => .exc x (putArgs xs (as.take xs.length) e)
    | .bad => .bad) else .bad
/-- o.m(..): o an instance of the class k -/
def rMeth (k : Nat) (m : Str) (n : Nat) (F : FSem) (ds : List PV) (ea : EvE) (el : EvA) : EvR := fun env => (ea env).bind fun x e1 => match look e1 x with
  | some (.ins k' fs) => if k' = k ∧ fs.lookup m = none then rCall n F ds (fun env => (el env).bind fun xs e => .ok (x :: xs) e) e1 else .bad
  | _ => .bad
/-- C(..): a new instance of the class k, then __init__ -/
def rMake (k : Nat) (n : Nat) (F : FSem) (ds : List PV) (el : EvA) : EvR := fun env => (el env).bind fun xs e => if okCall n ds (.tr .non :: xs) then (match argsOf e xs with
  | none => .bad
  | some args => match F (.ow (.ins k []) :: (args ++ ds.map Arg.t)) with
    | .ret (.t .non) (.ow o :: as) => RE.ok (Arg.ow o) (putArgs xs (as.take xs.length) e)
    | .exc x (_ :: as) => .exc x (putArgs xs (as.take xs.length) e)
    | _ => .bad) else .bad
section
variable {X : Cx} {c : TC} {r : Ref} {W : WX} {F : FSem} {el : EvA} {n : Nat} {ds : List PV} {dvs : List V}
theorem VReps.length {σ : L2.St} {G : Hp} : ∀ {xs : List Vl} {vs : List V}, VReps c σ G xs vs → vs.length = xs.length
  | [], _, h => by cases h; rfl
  | _ :: _, _, ⟨v, u, e, _, t⟩ => by subst e; simp [VReps.length t]
/-- the promise of the def, at the values xs -/
theorem call_core {ads0 ads : Nat → List Addr} {G0 H0 G H : Hp} {σ : L2.St} {env : En} {xs : List Vl} {vs : List V} {Q : VK} (R : RS c r ads G H σ env) (s0 : Nxt ads0 G0 H0 ads G H) (pv : VReps c σ G xs vs) (hd : ∀ G, RepL c G ds dvs)
    (h : (if okCall n ds xs then (match argsOf env xs with
      | none => RE.bad
      | some args => match F (args ++ ds.map Arg.t) with
        | .ret a as => .ok a (putArgs xs (as.take xs.length) env)
        | .exc x as => .exc x (putArgs xs (as.take xs.length) env)
        | .bad => .bad) else .bad).Sat (fun o env' => ∀ ads' G' H' v, RS c r ads' G' H' σ env' → Nxt ads0 G0 H0 ads' G' H' → ResNew c r ads' G' H0 H' o v → Q v H') (XC c r W G0 σ)) :
    spF c n F (vs ++ dvs) H Q (WE W σ) := by
  have ld := (hd G).length
  have lx := pv.length
  by_cases nt : okCall n ds xs = true
  rotate_left
  · rw [if_neg nt] at h; exact h.elim
  rw [if_pos nt] at h
  simp only [okCall, Bool.and_eq_true, beq_iff_eq] at nt
  refine ⟨by rw [List.length_append, ld, lx]; exact nt.2, ?_⟩
  cases qa : argsOf env xs with
  | none => rw [qa] at h; exact h.elim
  | some args =>
    rw [qa] at h
    have ar := R.arep pv qa
    have ap := R.apart nt.1
    have hB : ∀ a ∈ (xs.map (adOf ads) ++ ds.map fun _ => []).flatten, (∃ i, Vl.sl i ∈ xs ∧ a ∈ ads i) ∨ H a = none := fun a ha => by
      rw [List.flatten_append, flatten_nils, List.append_nil] at ha
      exact .inl (mem_adOf ha)
    refine ⟨G, args ++ ds.map Arg.t, xs.map (adOf ads) ++ ds.map fun _ => [], R.sub, ar.append (ARep.trs (hd G)), apart_nils ap.1, fun a ha => ?_, ?_⟩
    · rcases hB a ha with ⟨i, _, z⟩ | z
      · exact (R.own i a z).1
      · cases e : G a with
        | none => rfl
        | some u => rw [R.sub _ _ e] at z; cases z
    · cases qf : F (args ++ ds.map Arg.t) with
      | bad => simp only [qf] at h; exact h.elim
      | ret a as =>
        simp only [qf] at h
        intro H' G' v st rr ar'
        have ar2 := ARep.cutF (by simp [lx]) ar'
        rw [lx] at ar2
        have R' := R.call pv st hB ar2
        refine h ads G' H' v R' (s0.trans (R.callNxt st hB)) ?_
        cases a with
        | t t => exact rr
        | ow o =>
          obtain ⟨p, ad, e, ow, fr⟩ := rr
          refine ⟨p, ad, e, ow, fun b hb => ?_⟩
          have z := fr b hb
          refine ⟨⟨z.1, R.step.there b z.2, fun j hj => ?_⟩, s0.there b z.2⟩
          obtain ⟨u, e⟩ := R.ownSome hj
          rw [z.2] at e; cases e
      | exc x as =>
        simp only [qf] at h
        intro H' G' cls d st rx ar'
        have ar2 := ARep.cutF (by simp [lx]) ar'
        rw [lx] at ar2
        exact h ads G' H' cls d (R.call pv st hB ar2) (s0.sub.trans st.sub) rx
theorem call_imp (hd : ∀ G, RepL c G ds dvs) {σ : L2.St} {H : Hp} {Q : VK} (h : TRof c r W (rCall n F ds el) σ H Q) : tCallSD (spF c n F) dvs (WE W) (TAof c r W el) σ H Q := by
  obtain ⟨ads, G, env, R, h⟩ := h
  exact ⟨ads, G, env, R, Sat_mono (Sat_bind.mp h) (fun xs e1 h1 ads1 G1 H1 vs R1 s1 p1 => call_core R1 s1 p1 hd h1) fun _ _ z => z⟩
def tMethS (C : Addr) (m : Str) (sp : Sp) (dvs : List V) (E : L2.St → XK) (ta : TE) (t : TA) : TE := fun σ H Q => ta σ H fun x H1 => ∃ a dx fs, x = .ref a ∧ H1 a = some (.ins C dx fs) ∧ fs.lookup m = none ∧
  t σ H1 fun vs H2 => sp (x :: (vs ++ dvs)) H2 Q (E σ)
theorem meth_imp {k : Nat} {m : Str} {ea : EvE} (hd : ∀ G, RepL c G ds dvs) {σ : L2.St} {H : Hp} {Q : VK} (h : TRof c r W (rMeth k m n F ds ea el) σ H Q) : tMethS (c.C k) m (spF c n F) dvs (WE W) (TEof c r W ea) (TAof c r W el) σ H Q := by
  obtain ⟨ads, G, env, R, h⟩ := h
  refine ⟨ads, G, env, R, Sat_mono (Sat_bind.mp h) (fun x e1 h1 ads1 G1 H1 v1 R1 s1 p1 => ?_) fun _ _ z => z⟩
  cases q : look e1 x with
  | none => simp only [q] at h1; exact h1.elim
  | some t =>
    have w := look_rep R1 p1 q
    cases t with
    | ins k' fs =>
      simp only [q] at h1
      by_cases z : k' = k ∧ fs.lookup m = none
      · rw [if_pos z] at h1
        obtain ⟨rfl, z⟩ := z
        obtain ⟨a, dx, gs, rfl, hH, rf⟩ := w
        refine ⟨a, dx, gs, rfl, hH, rf.lookupN z, ads1, G1, e1, R1, ?_⟩
        have h2 := Sat_bind.mp (Sat_bind.mp h1)
        refine Sat_mono h2 (fun xs e2 h3 ads2 G2 H2 vs R2 s2 p2 => ?_) fun x e z => z.weak s1.sub
        exact call_core (xs := x :: xs) (vs := .ref a :: vs) R2 (s1.trans s2) ⟨_, _, rfl, p1.mono s2.sub, p2⟩ hd h3
      · rw [if_neg z] at h1; exact h1.elim
    | _ => simp only [q] at h1; exact h1.elim
def tMakeS (C : Addr) (sp : Sp) (dvs : List V) (E : L2.St → XK) (t : TA) : TE := fun σ H Q => t σ H fun vs H1 => ∀ x dx, H1 x = none → H1 dx = none → dx ≠ x →
  sp (.ref x :: (vs ++ dvs)) (upd (upd H1 dx (.own x)) x (.ins C dx [])) (fun v H2 => v = .non ∧ Q (.ref x) H2) (E σ)
theorem apart_new {adl : List (List Addr)} {x : Addr} (h : Apart adl) (n : ∀ a ∈ adl.flatten, a ≠ x) : Apart ([x] :: adl) := by
  have no : ∀ j a, a ∈ adl.getD j [] → a ∉ [x] := fun j a h1 h2 => n a (mem_flatten_getD h1) (List.mem_singleton.mp h2)
  intro i j a ha hb
  cases i with
  | zero =>
    cases j with
    | zero => rfl
    | succ j => exact absurd (by simpa using ha) (no j a (by simpa using hb))
  | succ i =>
    cases j with
    | zero => exact absurd (by simpa using hb) (no i a (by simpa using ha))
    | succ j => rw [h i j a (by simpa using ha) (by simpa using hb)]
theorem Step.allocB {G H : Hp} {p : Addr} {o : HO} (h : Sub G H) (hp : H p = none) {B : List Addr} : Step B H G (upd H p o) G := (Step.allocO h hp).wide fun _ z => nomatch z
theorem make_core {k : Nat} {ads0 ads : Nat → List Addr} {G0 H0 G H : Hp} {σ : L2.St} {env : En} {xs : List Vl} {vs : List V} {Q : VK} (R : RS c r ads G H σ env) (s0 : Nxt ads0 G0 H0 ads G H) (pv : VReps c σ G xs vs) (hd : ∀ G, RepL c G ds dvs)
    (h : (if okCall n ds (.tr .non :: xs) then (match argsOf env xs with
      | none => RE.bad
      | some args => match F (Arg.ow (.ins k []) :: (args ++ ds.map Arg.t)) with
        | .ret (.t .non) (.ow o :: as) => RE.ok (Arg.ow o) (putArgs xs (as.take xs.length) env)
        | .exc x (_ :: as) => .exc x (putArgs xs (as.take xs.length) env)
        | _ => .bad) else .bad).Sat (fun o env' => ∀ ads' G' H' v, RS c r ads' G' H' σ env' → Nxt ads0 G0 H0 ads' G' H' → ResNew c r ads' G' H0 H' o v → Q v H') (XC c r W G0 σ)) (x dx : Addr) (hx : H x = none) (hdx : H dx = none) (ne : dx ≠ x) :
    spF c n F (.ref x :: (vs ++ dvs)) (upd (upd H dx (.own x)) x (.ins (c.C k) dx [])) (fun v H2 => v = .non ∧ Q (.ref x) H2) (WE W σ) := by
  have ld := (hd G).length
  have lx := pv.length
  by_cases nt : okCall n ds (.tr .non :: xs) = true
  rotate_left
  · rw [if_neg nt] at h; exact h.elim
  rw [if_pos nt] at h
  simp only [okCall, Bool.and_eq_true, beq_iff_eq, List.length_cons, slotsOf] at nt
  refine ⟨by simp only [List.length_cons, List.length_append, ld, lx]; omega, ?_⟩
  cases qa : argsOf env xs with
  | none => rw [qa] at h; exact h.elim
  | some args =>
    rw [qa] at h
    have st1 : Step [] H G (upd H dx (.own x)) G := Step.allocO R.sub hdx
    have hx1 : (upd H dx (.own x)) x = none := by rw [upd_ne (Ne.symm ne)]; exact hx
    have st2 : Step [] H G (upd (upd H dx (.own x)) x (.ins (c.C k) dx [])) G := st1.trans0 (Step.allocO st1.sub1 hx1)
    have R1 := R.next st2
    have ar := R1.arep pv qa
    have ap := R1.apart nt.1
    have gx : G x = none := by
      cases e : G x with
      | none => rfl
      | some u => rw [R.sub _ _ e] at hx; cases hx
    have fx : ∀ a ∈ (xs.map (adOf ads)).flatten, a ≠ x := fun a ha e => by
      obtain ⟨i, _, z⟩ := mem_adOf ha
      obtain ⟨u, e'⟩ := R.ownSome z
      rw [e, hx] at e'; cases e'
    have fl : (xs.map (adOf ads) ++ ds.map fun _ => []).flatten = (xs.map (adOf ads)).flatten := by rw [List.flatten_append, flatten_nils, List.append_nil]
    refine ⟨G, Arg.ow (.ins k []) :: (args ++ ds.map Arg.t), [x] :: (xs.map (adOf ads) ++ ds.map fun _ => []), st2.sub1, ⟨⟨x, rfl, rfl, dx, [], upd_same, rfl⟩, ar.append (ARep.trs (hd G))⟩, apart_new (apart_nils ap.1) (by rw [fl]; exact fx), fun a ha => ?_, ?_⟩
    · simp only [List.flatten_cons, fl] at ha
      rcases List.mem_append.mp ha with z | z
      · rw [List.mem_singleton.mp z]; exact gx
      · obtain ⟨i, _, y⟩ := mem_adOf z
        exact (R.own i a y).1
    · have hB : ∀ a ∈ ([x] :: (xs.map (adOf ads) ++ ds.map fun _ => [])).flatten, (∃ i, Vl.sl i ∈ xs ∧ a ∈ ads i) ∨ H a = none := fun a ha => by
        simp only [List.flatten_cons, fl] at ha
        rcases List.mem_append.mp ha with z | z
        · rw [List.mem_singleton.mp z]; exact .inr hx
        · exact .inl (mem_adOf z)
      cases qf : F (Arg.ow (.ins k []) :: (args ++ ds.map Arg.t)) with
      | bad => simp only [qf] at h; exact h.elim
      | ret a as =>
        simp only [qf] at h
        intro H' G' v st rr ar'
        have stA : Step ([x] :: (xs.map (adOf ads) ++ ds.map fun _ => [])).flatten H G H' G' := (st2.wide fun _ z => nomatch z).trans st fun a ha => .inl ha
        cases a with
        | ow o => exact h.elim
        | t t =>
          cases t with
          | non =>
            cases as with
            | nil => exact h.elim
            | cons a0 as =>
              cases a0 with
              | t _ => exact h.elim
              | ow o =>
                have rv : v = .non := rr
                refine ⟨rv, ?_⟩
                have ar2 := ARep.cutF (by simp [lx]) ar'.2
                rw [lx] at ar2
                have R' := R.call pv stA hB ar2
                obtain ⟨p, e, ow⟩ := ar'.1
                refine h ads G' H' (.ref x) R' (s0.trans (R.callNxt stA hB)) ⟨p, [x], e, ow, fun b hb => ?_⟩
                rw [List.mem_singleton.mp hb]
                refine ⟨⟨?_, R.step.there x hx, fun j hj => ?_⟩, s0.there x hx⟩
                · cases e : G' x with
                  | none => rfl
                  | some u =>
                    rcases st.new x u e with y | y
                    · rw [gx] at y; cases y
                    · rw [upd_same] at y; cases y
                · obtain ⟨u, e⟩ := R.ownSome hj
                  rw [hx] at e; cases e
          | _ => exact h.elim
      | exc ex as =>
        simp only [qf] at h
        intro H' G' cls d st rx ar'
        cases as with
        | nil => exact h.elim
        | cons a0 as =>
          have stA : Step ([x] :: (xs.map (adOf ads) ++ ds.map fun _ => [])).flatten H G H' G' := (st2.wide fun _ z => nomatch z).trans st fun a ha => .inl ha
          have ar2 := ARep.cutF (by simp [lx]) ar'.2
          rw [lx] at ar2
          exact h ads G' H' cls d (R.call pv stA hB ar2) (s0.sub.trans stA.sub) rx
theorem make_imp {k : Nat} (hd : ∀ G, RepL c G ds dvs) {σ : L2.St} {H : Hp} {Q : VK} (h : TRof c r W (rMake k n F ds el) σ H Q) : tMakeS (c.C k) (spF c n F) dvs (WE W) (TAof c r W el) σ H Q := by
  obtain ⟨ads, G, env, R, h⟩ := h
  exact ⟨ads, G, env, R, Sat_mono (Sat_bind.mp h) (fun xs e1 h1 ads1 G1 H1 vs R1 s1 p1 x dx hx hdx ne => make_core R1 s1 p1 hd h1 x dx hx hdx ne) fun _ _ z => z⟩
end

/-! ### the rules -/
section
variable {X : Cx} {k : Nat} {f C : Addr} {fd : FuncData} {ps : List Str} {sp : Sp} {dvs : List V} {dw : List Value} {W : WX} {x m : Str} {p pos apos : Pos} {a o : Expr} {as : List Expr} {ta : TE} {t : TA}
theorem callS1 (F : FnG X.prog X.w X.K X.mg X.base k f fd ps sp) (hr : RoomG k X.A) (hg : Gl X x) (hm : X.mg x = some (.ref f)) (hk : PySem.W.keepIn X.K (.ref f) = true) (hb : Binds X.K fd ps dw) (hd : Vals dvs dw) (tk : Takes X W) (ha : PA X (a :: as) t)
    (hdb : (x == ("__debug__" : Str)) = false := by decide) (he : starEach (a :: as) X.env = (false, eval a X.env) :: starEach as X.env := by rfl) (hpl : (backTo pos (starEach as X.env)).any (·.1) = false := by rfl) : PE X (.Call (.Name x p) (a :: as) [] pos) (tCallSD sp dvs (WE W) t) := ⟨fun pn st σ Hh Qq J hq => by
  refine wpAny_Call_Name_kw (ld_glob J hg hm (PySem.W.callWith_K (h₀ := X.base) J.ok.mod.kin hk (thn (ha.run pos pn st σ Hh _ J hq) fun us s1 ⟨vs, H1, J1, rr, q⟩ => ⟨J1.kIn, ?_⟩) he hpl) hdb)
  exact runG F hb hd hr J1.ok.frames (passAt tk σ) J1 rr q⟩
theorem callS0 (F : FnG X.prog X.w X.K X.mg X.base k f fd ps sp) (hr : RoomG k X.A) (hg : Gl X x) (hm : X.mg x = some (.ref f)) (hk : PySem.W.keepIn X.K (.ref f) = true) (hb : Binds X.K fd ps dw) (hd : Vals dvs dw) (tk : Takes X W)
    (hdb : (x == ("__debug__" : Str)) = false := by decide) : PE X (.Call (.Name x p) [] [] pos) (tCallSD sp dvs (WE W) tNil) := ⟨fun pn st σ Hh Qq J hq =>
  wpAny_Call_Name_kw (ld_glob J hg hm (PySem.W.callWith_K0 J.kIn hk (runG (us := []) F hb hd hr J.ok.frames (passAt tk σ) J .nil hq)) hdb)⟩
theorem methS {pl : Sem Bool} (he : PE X o ta) (c : Cls X.K C) (hm : Meth X.K C m f) (F : FnG X.prog X.w X.K X.mg X.base k f fd ps sp) (hr : RoomG k X.A) (hb : Binds X.K fd ps dw) (hd : Vals dvs dw) (tk : Takes X W) (ha : PA X (a :: as) t)
    (hst : starEach (a :: as) X.env = (false, eval a X.env) :: starEach as X.env := by rfl) (hpl : (backTo pos (starEach as X.env)).any (·.1) = false := by rfl)
    (ht : eval (.Call (.Attribute o m apos) (a :: as) [] pos) X.env = (do let ov ← eval o X.env; standAt apos.atName; let (g, first) ← holding [ov] (getMethod ov m pl); callWith pos g first (backTo pos (starEach (a :: as) X.env)) (backToKw pos (keywordEach [] X.env))) := by rfl) :
    PE X (.Call (.Attribute o m apos) (a :: as) [] pos) (tMethS C m sp dvs (WE W) ta t) := ⟨fun pn st σ Hh Qq J hq => by
  refine PySem.W.methodCall_KW (pl := pl) (thn (he.run pn st σ Hh _ J hq) fun u s1 ⟨v, H1, J1, rv, b, dx, fs, ev, eb, l, q⟩ => ?_) ht
  subst ev
  obtain rfl : u = Value.ref b := rv
  refine getmeth_ok J1 eb c hm l (PySem.W.callWith_K (first := [.ref b]) (h₀ := X.base) J.ok.mod.kin hm.kp (thn (ha.run pos pn s1 σ H1 _ J1 q) fun us s2 ⟨vs, H2, J2, rr, q2⟩ => ⟨J2.kIn, ?_⟩) hst hpl)
  exact runG (us := .ref b :: us) (vs := .ref b :: vs) F hb hd hr J2.ok.frames (passAt tk σ) J2 (.cons rfl rr) q2⟩
theorem methS0 {pl : Sem Bool} (he : PE X o ta) (c : Cls X.K C) (hm : Meth X.K C m f) (F : FnG X.prog X.w X.K X.mg X.base k f fd ps sp) (hr : RoomG k X.A) (hb : Binds X.K fd ps dw) (hd : Vals dvs dw) (tk : Takes X W)
    (ht : eval (.Call (.Attribute o m apos) [] [] pos) X.env = (do let ov ← eval o X.env; standAt apos.atName; let (g, first) ← holding [ov] (getMethod ov m pl); callWith pos g first (backTo pos (starEach [] X.env)) (backToKw pos (keywordEach [] X.env))) := by rfl) :
    PE X (.Call (.Attribute o m apos) [] [] pos) (tMethS C m sp dvs (WE W) ta tNil) := ⟨fun pn st σ Hh Qq J hq => by
  refine PySem.W.methodCall_KW (pl := pl) (thn (he.run pn st σ Hh _ J hq) fun u s1 ⟨v, H1, J1, rv, b, dx, fs, ev, eb, l, q⟩ => ?_) ht
  subst ev
  obtain rfl : u = Value.ref b := rv
  refine getmeth_ok J1 eb c hm l (PySem.W.callWith_K0 (first := [.ref b]) J1.kIn hm.kp ?_)
  exact runG (us := [.ref b]) (vs := [.ref b]) F hb hd hr J1.ok.frames (passAt tk σ) J1 (.cons rfl .nil) q⟩
theorem makeRun {pn : List (Addr × Obj)} {σ : L2.St} {Hh : Hp} {st : Shared} {Qq : VK} {us : List Value} {vs : List V} {E : XK} (M : Mk X.K C f) (F : FnG X.prog X.w X.K X.mg X.base k f fd ps sp) (hr : RoomG (k + 1) X.A) (hb : Binds X.K fd ps dw) (hd : Vals dvs dw)
    (hx : PassesAt (L2.CX X.prog X.w) X σ E) (J : Inv X pn σ Hh st) (rr : Vals vs us) (h : ∀ y dx, Hh y = none → Hh dx = none → dx ≠ y → sp (.ref y :: (vs ++ dvs)) (upd (upd Hh dx (.own y)) y (.ins C dx [])) (fun v H2 => v = .non ∧ Qq (.ref y) H2) E) :
    wpAny (model X.prog X.w) X.A (call (.ref C) us) (EP X pn σ Qq) X.xe st := by
  have hq := h (st.heap.objs.size + 1) st.heap.objs.size (J.hok.fresh (Nat.le_succ _)) (J.hok.fresh (Nat.le_refl _)) (Nat.ne_of_lt (Nat.lt_succ_self _))
  have J2 := Inv.made (C := C) J
  have rr2 : Vals (V.ref (st.heap.objs.size + 1) :: (vs ++ dvs)) (Value.ref (st.heap.objs.size + 1) :: (us ++ dw)) := .cons rfl (rr.append hd)
  have hl : (Value.ref (st.heap.objs.size + 1) :: us ++ dw).length = ps.length := (rr2.length.symm.trans (F.len _ _ _ _ hq))
  have run := F.run _ X.stack _ _ ⟨Value.ref (st.heap.objs.size + 1) :: us, []⟩ _ _ _ E (hr.make C us []) (J2.env0.make C us []) (hb _ (Value.ref (st.heap.objs.size + 1) :: us) J2.kIn hl) rr2 hq
  refine wpAny_call (make_map (f := f) J.kIn M.makes M.init (beq_iff_eq.mp M.fn) (codeAny_mono run fun z s' hz => ?_))
  match z, hz with
  | .error e, hz => exact hx pn _ _ e s' J2 hz
  | .ok (.ret u), hz =>
    obtain ⟨v, H', J3, rv, ev, q3⟩ := J2.after hz
    subst ev
    exact ⟨rv, ⟨V.ref (st.heap.objs.size + 1), H', J3, rfl, q3⟩⟩
  | .ok .next, hz => exact hz.elim
  | .ok .brk, hz => exact hz.elim
  | .ok .cont, hz => exact hz.elim
theorem makeS (M : Mk X.K C f) (F : FnG X.prog X.w X.K X.mg X.base k f fd ps sp) (hr : RoomG (k + 1) X.A) (hg : Gl X x) (hm : X.mg x = some (.ref C)) (hb : Binds X.K fd ps dw) (hd : Vals dvs dw) (tk : Takes X W)
    (ha : PA X (a :: as) t) (hdb : (x == ("__debug__" : Str)) = false := by decide) (he : starEach (a :: as) X.env = (false, eval a X.env) :: starEach as X.env := by rfl) (hpl : (backTo pos (starEach as X.env)).any (·.1) = false := by rfl) :
    PE X (.Call (.Name x p) (a :: as) [] pos) (tMakeS C sp dvs (WE W) t) := ⟨fun pn st σ Hh Qq J hq => by
  refine wpAny_Call_Name_kw (ld_glob J hg hm (PySem.W.callWith_K (h₀ := X.base) J.ok.mod.kin M.kp (thn (ha.run pos pn st σ Hh _ J hq) fun us s1 ⟨vs, H1, J1, rr, q⟩ => ⟨J1.kIn, ?_⟩) he hpl) hdb)
  exact makeRun M F hr hb hd (passAt tk σ) J1 rr q⟩
theorem makeS0 (M : Mk X.K C f) (F : FnG X.prog X.w X.K X.mg X.base k f fd ps sp) (hr : RoomG (k + 1) X.A) (hg : Gl X x) (hm : X.mg x = some (.ref C)) (hb : Binds X.K fd ps dw) (hd : Vals dvs dw) (tk : Takes X W)
    (hdb : (x == ("__debug__" : Str)) = false := by decide) : PE X (.Call (.Name x p) [] [] pos) (tMakeS C sp dvs (WE W) tNil) := ⟨fun pn st σ Hh Qq J hq =>
  wpAny_Call_Name_kw (ld_glob J hg hm (PySem.W.callWith_K0 J.kIn M.kp (makeRun (us := []) M F hr hb hd (passAt tk σ) J .nil hq)) hdb)⟩
end
/-- the defaults that fill up -/
structure Fill (c : TC) (K : PySem.W.Frag) (fd : FuncData) (ps : List Str) (ds : List PV) : Prop where
  ex : ∃ (dvs : List V) (dw : List Value), Vals dvs dw ∧ Binds K fd ps dw ∧ ∀ G, RepL c G ds dvs
theorem Fill.all {c : TC} {K : PySem.W.Frag} {fd : FuncData} {ps : List Str} (h : Binds K fd ps []) : Fill c K fd ps [] := ⟨[], [], .nil, h, fun _ => rfl⟩
section
variable {X : Cx} {c : TC} {r : Ref} {W : WX} {F : FSem} {el : EvA} {ea : EvE} {n k kc : Nat} {ds : List PV} {f : Addr} {fd : FuncData} {ps : List Str} {x m : Str} {p pos apos : Pos} {a o : Expr} {as : List Expr}
theorem tr_call (hF : FnG X.prog X.w X.K X.mg X.base k f fd ps (spF c n F)) (hb : Fill c X.K fd ps ds) (hr : RoomG k X.A) (tk : Takes X W) (hg : Gl X x) (hm : X.mg x = some (.ref f)) (hk : PySem.W.keepIn X.K (.ref f) = true)
    (ha : PA X (a :: as) (TAof c r W el)) (hdb : (x == ("__debug__" : Str)) = false := by decide) (he : starEach (a :: as) X.env = (false, eval a X.env) :: starEach as X.env := by rfl) (hpl : (backTo pos (starEach as X.env)).any (·.1) = false := by rfl) :
    PE X (.Call (.Name x p) (a :: as) [] pos) (TRof c r W (rCall n F ds el)) := by
  obtain ⟨dvs, dw, h1, h2, h3⟩ := hb.ex
  exact PE.imp (callS1 hF hr hg hm hk h2 h1 tk ha hdb he hpl) fun σ Hh Q h => call_imp h3 h
theorem tr_call0 (hF : FnG X.prog X.w X.K X.mg X.base k f fd ps (spF c n F)) (hb : Fill c X.K fd ps ds) (hr : RoomG k X.A) (tk : Takes X W) (hg : Gl X x) (hm : X.mg x = some (.ref f)) (hk : PySem.W.keepIn X.K (.ref f) = true)
    (hdb : (x == ("__debug__" : Str)) = false := by decide) : PE X (.Call (.Name x p) [] [] pos) (TRof c r W (rCall n F ds aNil)) := by
  obtain ⟨dvs, dw, h1, h2, h3⟩ := hb.ex
  refine PE.imp (callS0 hF hr hg hm hk h2 h1 tk hdb) fun σ Hh Q h => ?_
  obtain ⟨ads, G, env, R, h⟩ := h
  exact call_core (xs := []) (vs := []) R (Nxt.refl _ _ _) rfl h3 h
theorem tr_meth {pl : Sem Bool} (he : PE X o (TEof c r W ea)) (cl : Cls X.K (c.C kc)) (hm : Meth X.K (c.C kc) m f) (hF : FnG X.prog X.w X.K X.mg X.base k f fd ps (spF c n F)) (hb : Fill c X.K fd ps ds) (hr : RoomG k X.A) (tk : Takes X W) (ha : PA X (a :: as) (TAof c r W el))
    (hst : starEach (a :: as) X.env = (false, eval a X.env) :: starEach as X.env := by rfl) (hpl : (backTo pos (starEach as X.env)).any (·.1) = false := by rfl)
    (ht : eval (.Call (.Attribute o m apos) (a :: as) [] pos) X.env = (do let ov ← eval o X.env; standAt apos.atName; let (g, first) ← holding [ov] (getMethod ov m pl); callWith pos g first (backTo pos (starEach (a :: as) X.env)) (backToKw pos (keywordEach [] X.env))) := by rfl) :
    PE X (.Call (.Attribute o m apos) (a :: as) [] pos) (TRof c r W (rMeth kc m n F ds ea el)) := by
  obtain ⟨dvs, dw, h1, h2, h3⟩ := hb.ex
  exact PE.imp (methS he cl hm hF hr h2 h1 tk ha hst hpl ht) fun σ Hh Q h => meth_imp h3 h
theorem tr_meth0 {pl : Sem Bool} (he : PE X o (TEof c r W ea)) (cl : Cls X.K (c.C kc)) (hm : Meth X.K (c.C kc) m f) (hF : FnG X.prog X.w X.K X.mg X.base k f fd ps (spF c n F)) (hb : Fill c X.K fd ps ds) (hr : RoomG k X.A) (tk : Takes X W)
    (ht : eval (.Call (.Attribute o m apos) [] [] pos) X.env = (do let ov ← eval o X.env; standAt apos.atName; let (g, first) ← holding [ov] (getMethod ov m pl); callWith pos g first (backTo pos (starEach [] X.env)) (backToKw pos (keywordEach [] X.env))) := by rfl) :
    PE X (.Call (.Attribute o m apos) [] [] pos) (TRof c r W (rMeth kc m n F ds ea aNil)) := by
  obtain ⟨dvs, dw, h1, h2, h3⟩ := hb.ex
  refine PE.imp (methS0 he cl hm hF hr h2 h1 tk ht) fun σ Hh Q h => ?_
  have z : tMethS (c.C kc) m (spF c n F) dvs (WE W) (TEof c r W ea) (TAof c r W aNil) σ Hh Q := meth_imp h3 h
  exact z.imp fun ads hz => hz.imp fun G hz => hz.imp fun env ⟨R, hz⟩ => ⟨R, Sat_mono hz (fun x e hx ads' G' H' v R' s' p' => by
    obtain ⟨b, dx, fs, e1, e2, e3, ads2, G2, env2, R2, z2⟩ := hx ads' G' H' v R' s' p'
    exact ⟨b, dx, fs, e1, e2, e3, z2 ads2 G2 H' [] R2 (Nxt.refl _ _ _) rfl⟩) fun _ _ q => q⟩
theorem tr_make (M : Mk X.K (c.C kc) f) (hF : FnG X.prog X.w X.K X.mg X.base k f fd ps (spF c n F)) (hb : Fill c X.K fd ps ds) (hr : RoomG (k + 1) X.A) (tk : Takes X W) (hg : Gl X x) (hm : X.mg x = some (.ref (c.C kc)))
    (ha : PA X (a :: as) (TAof c r W el)) (hdb : (x == ("__debug__" : Str)) = false := by decide) (he : starEach (a :: as) X.env = (false, eval a X.env) :: starEach as X.env := by rfl) (hpl : (backTo pos (starEach as X.env)).any (·.1) = false := by rfl) :
    PE X (.Call (.Name x p) (a :: as) [] pos) (TRof c r W (rMake kc n F ds el)) := by
  obtain ⟨dvs, dw, h1, h2, h3⟩ := hb.ex
  exact PE.imp (makeS M hF hr hg hm h2 h1 tk ha hdb he hpl) fun σ Hh Q h => make_imp h3 h
theorem tr_make0 (M : Mk X.K (c.C kc) f) (hF : FnG X.prog X.w X.K X.mg X.base k f fd ps (spF c n F)) (hb : Fill c X.K fd ps ds) (hr : RoomG (k + 1) X.A) (tk : Takes X W) (hg : Gl X x) (hm : X.mg x = some (.ref (c.C kc)))
    (hdb : (x == ("__debug__" : Str)) = false := by decide) : PE X (.Call (.Name x p) [] [] pos) (TRof c r W (rMake kc n F ds aNil)) := by
  obtain ⟨dvs, dw, h1, h2, h3⟩ := hb.ex
  refine PE.imp (makeS0 M hF hr hg hm h2 h1 tk hdb) fun σ Hh Q h => ?_
  obtain ⟨ads, G, env, R, h⟩ := h
  exact fun y dx hy hdx ne => make_core (xs := []) (vs := []) R (Nxt.refl _ _ _) rfl h3 h y dx hy hdx ne
end
end TreeL
end
section
/-! TL7: operations on trees: data of any depth, ==, in, arithmetic, comparisons. -/
namespace TreeL
open PySem PySem.Spec PyProof.Rows L2

/-! ### data -/
mutual
/-- data of depth at most n -/
def dat : Nat → PV → Bool
  | _, .non => true
  | _, .bl _ => true
  | _, .int _ => true
  | _, .str _ => true
  | n + 1, .lst xs => datL n xs
  | n + 1, .tup xs => datL n xs
  | _, _ => false
def datL : Nat → List PV → Bool
  | _, [] => true
  | n, x :: xs => dat n x && datL n xs
end
theorem datL_all {n : Nat} : ∀ {xs : List PV}, datL n xs = xs.all (dat n)
  | [] => by simp [datL]
  | x :: xs => by rw [datL, datL_all (xs := xs)]; rfl
mutual
def toD : PV → PyData
  | .non => .none
  | .bl b => .bool b
  | .int i => .int i
  | .str x => .str x
  | .lst xs => .list (toDs xs)
  | .tup xs => .tuple (toDs xs)
  | .ins _ _ => .none
  | .dct _ _ => .none
  | .scr _ => .none
  | .cls _ => .none
def toDs : List PV → List PyData
  | [] => []
  | x :: xs => toD x :: toDs xs
end
mutual
/-- == of data -/
def peq : PV → PV → Bool
  | .non, .non => true
  | .bl a, .bl b => a == b
  | .bl a, .int j => (if a then 1 else 0) == j
  | .int i, .bl b => i == (if b then 1 else 0)
  | .int i, .int j => i == j
  | .str x, .str y => x == y
  | .lst xs, .lst ys => peqL xs ys
  | .tup xs, .tup ys => peqL xs ys
  | _, _ => false
def peqL : List PV → List PV → Bool
  | [], [] => true
  | x :: xs, y :: ys => peq x y && peqL xs ys
  | _, _ => false
end
theorem toDs_map : ∀ xs : List PV, toDs xs = xs.map toD
  | [] => by simp [toDs]
  | x :: xs => by rw [toDs, toDs_map xs]; rfl
section
variable {c : TC} {H : Hp}
mutual
theorem Rep.dp : ∀ {t : PV} {n : Nat} {v : V}, dat n t = true → Rep c H t v → Dp c.K H v (toD t) ∧ (toD t).canLay0 = true ∧ (toD t).depth ≤ n
  | .non, n, v, _, h => by
    simp only [Rep] at h
    subst h
    exact ⟨by rw [toD]; exact .non, by simp [toD, PyData.canLay0], by simp [toD, PyData.depth]⟩
  | .bl b, n, v, _, h => by
    simp only [Rep] at h
    subst h
    exact ⟨by rw [toD]; exact .bl b, by simp [toD, PyData.canLay0], by simp [toD, PyData.depth]⟩
  | .int i, n, v, _, h => by
    simp only [Rep] at h
    subst h
    exact ⟨by rw [toD]; exact .int i, by simp [toD, PyData.canLay0], by simp [toD, PyData.depth]⟩
  | .str x, n, v, _, h => by
    simp only [Rep] at h
    obtain ⟨rfl, hx⟩ := h
    exact ⟨by rw [toD]; exact .str x, by rw [toD, PyData.canLay0]; exact hx.2, by simp [toD, PyData.depth]⟩
  | .lst xs, 0, v, d, h => by simp [dat] at d
  | .lst xs, n + 1, v, d, h => by
    simp only [Rep] at h
    obtain ⟨p, vs, rfl, hp, rr⟩ := h
    rw [dat] at d
    obtain ⟨h1, h2, h3⟩ := RepL.dp d rr
    exact ⟨by rw [toD]; exact .lst (.inl (.inl hp)) h1, by rw [toD, PyData.canLay0]; exact h2, by rw [toD, PyData.depth]; omega⟩
  | .tup xs, 0, v, d, h => by simp [dat] at d
  | .tup xs, n + 1, v, d, h => by
    simp only [Rep] at h
    obtain ⟨p, vs, rfl, hp, rr⟩ := h
    rw [dat] at d
    obtain ⟨h1, h2, h3⟩ := RepL.dp d rr
    exact ⟨by rw [toD]; exact .tup hp h1, by rw [toD, PyData.canLay0]; exact h2, by rw [toD, PyData.depth]; omega⟩
  | .ins k fs, n, v, d, h => by cases n <;> simp [dat] at d
  | .dct t kvs, n, v, d, h => by cases n <;> simp [dat] at d
  | .scr _, n, v, d, h => by cases n <;> simp [dat] at d
  | .cls _, n, v, d, h => by cases n <;> simp [dat] at d
theorem RepL.dp : ∀ {t : List PV} {n : Nat} {v : List V}, datL n t = true → RepL c H t v → DpAll c.K H v (toDs t) ∧ PyData.canLayAll0 (toDs t) = true ∧ PyData.depthAll (toDs t) ≤ n
  | [], n, v, _, h => by
    cases h
    exact ⟨by rw [toDs]; exact .nil, by simp [toDs, PyData.canLayAll0], by simp [toDs, PyData.depthAll]⟩
  | t :: ts, n, v, d, ⟨u, r, e, a, b⟩ => by
    subst e
    rw [datL, Bool.and_eq_true] at d
    obtain ⟨h1, h2, h3⟩ := Rep.dp d.1 a
    obtain ⟨k1, k2, k3⟩ := RepL.dp d.2 b
    refine ⟨by rw [toDs]; exact .cons h1 k1, by rw [toDs, PyData.canLayAll0, h2, k2]; rfl, ?_⟩
    rw [toDs, PyData.depthAll]
    exact Nat.max_le.mpr ⟨h3, k3⟩
end
theorem Rep.shape {t : PV} {v : V} (d : dat 64 t = true) (h : Rep c H t v) : Dp c.K H v (toD t) ∧ SeqAt.shaped (toD t) = true := by
  obtain ⟨h1, h2, h3⟩ := h.dp d
  exact ⟨h1, by rw [SeqAt.shaped, h2]; simpa using h3⟩
end
mutual
theorem peq_eqv : ∀ {a b : PV} {n m : Nat}, dat n a = true → dat m b = true → PyData.eqv (toD a) (toD b) = peq a b
  | .ins _ _, _, n, _, h, _ => by cases n <;> simp [dat] at h
  | .dct _ _, _, n, _, h, _ => by cases n <;> simp [dat] at h
  | .scr _, _, n, _, h, _ => by cases n <;> simp [dat] at h
  | .cls _, _, n, _, h, _ => by cases n <;> simp [dat] at h
  | a, .ins _ _, _, m, _, h => by cases m <;> simp [dat] at h
  | a, .dct _ _, _, m, _, h => by cases m <;> simp [dat] at h
  | a, .scr _, _, m, _, h => by cases m <;> simp [dat] at h
  | a, .cls _, _, m, _, h => by cases m <;> simp [dat] at h
  | .non, b, n, m, _, _ => by cases b <;> simp_all [toD, PyData.eqv, peq, dat]
  | .bl _, b, n, m, _, _ => by cases b <;> simp_all [toD, PyData.eqv, peq, dat]
  | .int _, b, n, m, _, _ => by cases b <;> simp_all [toD, PyData.eqv, peq, dat]
  | .str _, b, n, m, _, _ => by cases b <;> simp_all [toD, PyData.eqv, peq, dat]
  | .lst xs, b, 0, m, h, _ => by simp [dat] at h
  | .tup xs, b, 0, m, h, _ => by simp [dat] at h
  | .lst xs, b, n + 1, m, h, h' => by
    cases b with
    | lst ys =>
      cases m with
      | zero => simp [dat] at h'
      | succ m =>
        rw [dat] at h h'
        rw [toD, toD, PyData.eqv, peq]
        exact peqL_eqv h h'
    | _ => simp_all [toD, PyData.eqv, peq, dat]
  | .tup xs, b, n + 1, m, h, h' => by
    cases b with
    | tup ys =>
      cases m with
      | zero => simp [dat] at h'
      | succ m =>
        rw [dat] at h h'
        rw [toD, toD, PyData.eqv, peq]
        exact peqL_eqv h h'
    | _ => simp_all [toD, PyData.eqv, peq, dat]
theorem peqL_eqv : ∀ {a b : List PV} {n m : Nat}, datL n a = true → datL m b = true → PyData.eqvAll (toDs a) (toDs b) = peqL a b
  | [], [], _, _, _, _ => by simp [toDs, PyData.eqvAll, peqL]
  | [], _ :: _, _, _, _, _ => by simp [toDs, PyData.eqvAll, peqL]
  | _ :: _, [], _, _, _, _ => by simp [toDs, PyData.eqvAll, peqL]
  | x :: xs, y :: ys, n, m, h, h' => by
    rw [datL, Bool.and_eq_true] at h h'
    rw [toDs, toDs, PyData.eqvAll, peqL, peq_eqv h.1 h'.1, peqL_eqv h.2 h'.2]
end
theorem peqL_toDs {xs : List PV} {d : PV} {n m : Nat} (h : datL n xs = true) (h' : dat m d = true) : ((toDs xs).any fun z => PyData.eqv z (toD d)) = xs.any fun z => peq z d := by
  induction xs with
  | nil => rfl
  | cons x xs ih =>
    rw [datL, Bool.and_eq_true] at h
    rw [toDs, List.any_cons, List.any_cons, peq_eqv h.1 h', ih h.2]
mutual
theorem peq_self : ∀ {a : PV} {n : Nat}, dat n a = true → peq a a = true
  | .non, _, _ => by simp [peq]
  | .bl _, _, _ => by simp [peq]
  | .int _, _, _ => by simp [peq]
  | .str _, _, _ => by simp [peq]
  | .lst xs, 0, h => by simp [dat] at h
  | .tup xs, 0, h => by simp [dat] at h
  | .lst xs, n + 1, h => by rw [dat] at h; rw [peq]; exact peqL_self h
  | .tup xs, n + 1, h => by rw [dat] at h; rw [peq]; exact peqL_self h
  | .ins _ _, n, h => by cases n <;> simp [dat] at h
  | .dct _ _, n, h => by cases n <;> simp [dat] at h
  | .scr _, n, h => by cases n <;> simp [dat] at h
  | .cls _, n, h => by cases n <;> simp [dat] at h
theorem peqL_self : ∀ {a : List PV} {n : Nat}, datL n a = true → peqL a a = true
  | [], _, _ => by simp [peqL]
  | x :: xs, n, h => by
    rw [datL, Bool.and_eq_true] at h
    rw [peqL, peq_self h.1, peqL_self h.2]; rfl
end

/-! ### operations: a value, or a new list -/
def QRes (c : TC) (G H : Hp) : Arg → V → Hp → Hp → Prop
  | .t t, v, H', G' => Step [] H G H' G' ∧ Rep c G' t v
  | .ow (.lst ts), v, H', G' => G' = G ∧ ∃ p vs, v = .ref p ∧ H p = none ∧ H' = upd H p (.lst vs) ∧ RepL c G ts vs
  | .ow (.dct b kvs), v, H', G' => G' = G ∧ ∃ p ho, v = .ref p ∧ H p = none ∧ H' = upd H p ho ∧ OwRep c G H' p [p] (.dct b kvs)
  | .ow _, _, _, _ => False
def QOut (c : TC) (G H : Hp) (a : Arg) (Q : VK) : Prop := ∀ v H' G', QRes c G H a v H' G' → Q v H'
def OpQ (X : Cx) (c : TC) (g : Value → Value → Sem Value) (f : PV → PV → Option Arg) : Prop :=
  ∀ G H t1 t2 t v1 v2 Q, f t1 t2 = some t → Sub G H → WRep c G H t1 v1 → WRep c G H t2 v2 → QOut c G H t Q → rAny2 X g v1 v2 H Q
def CallQ (X : Cx) (c : TC) (g : Value) (f : List PV → Option Arg) : Prop :=
  ∀ G H ts t vs Q, f ts = some t → Sub G H → Paired (WRep c G H) ts vs → QOut c G H t Q → ∃ r, CallR X g r ∧ r vs H Q
def MtQ (X : Cx) (c : TC) (id : String) (f : PV → List PV → Option Arg) : Prop :=
  ∀ G H t0 ts t v0 vs Q, f t0 ts = some t → Sub G H → WRep c G H t0 v0 → Paired (WRep c G H) ts vs → QOut c G H t Q → ∃ r, MtR X id r ∧ r v0 vs H Q
@[simp] def looks (env : En) : List Vl → Option (List PV)
  | [] => some []
  | x :: xs => match look env x, looks env xs with
    | some t, some ts => some (t :: ts)
    | _, _ => none
@[simp] def rBin (f : PV → PV → Option Arg) (ea eb : EvE) : EvR := fun env => (ea env).bind fun a e1 => (eb e1).bind fun b e2 =>
  match look e2 a, look e2 b with
  | some x, some y => ofO (f x y) e2
  | _, _ => .bad
@[simp] def rBui (f : List PV → Option Arg) (el : EvA) : EvR := fun env => (el env).bind fun xs e => match looks e xs with
  | some ts => ofO (f ts) e
  | none => .bad
def tval (f : PV → PV → Option PV) : PV → PV → Option Arg := fun a b => (f a b).map Arg.t
theorem OpP.q {X : Cx} {c : TC} {g : Value → Value → Sem Value} {f : PV → PV → Option PV} (h : OpP X c g f) : OpQ X c g (tval f) := fun G H t1 t2 t v1 v2 Q e s w1 w2 q => by
  simp only [tval] at e
  cases z : f t1 t2 with
  | none => rw [z] at e; cases e
  | some u => rw [z] at e; cases e; exact h G H t1 t2 u v1 v2 Q z s w1 w2 fun v H' G' st p => q v H' G' ⟨st, p⟩
section
variable {X : Cx} {c : TC} {r : Ref} {W : WX} {a b o e : Expr} {as es : List Expr} {ea eb : EvE} {el : EvA} {pos p apos : Pos}
theorem QOut.res {ads0 ads : Nat → List Addr} {G0 H0 G H : Hp} {σ : L2.St} {env : En} {o : Arg} {Q : VK} (R : RS c r ads G H σ env) (s0 : Nxt ads0 G0 H0 ads G H)
    (h : ∀ ads' G' H' v, RS c r ads' G' H' σ env → Nxt ads0 G0 H0 ads' G' H' → ResNew c r ads' G' H0 H' o v → Q v H') : QOut c G H o Q := fun v H' G' q => by
  cases o with
  | t t => exact h ads G' H' v (R.next q.1) (s0.trans (Nxt.of q.1)) q.2
  | ow o =>
    cases o with
    | lst ts =>
      obtain ⟨rfl, p, vs, rfl, hp, rfl, rr⟩ := q
      exact h ads G' _ (.ref p) (R.lay hp) (s0.trans (Nxt.of (Step.allocO R.sub hp))) ⟨p, [p], rfl, ⟨rfl, vs, upd_same, rr⟩, fun b hb => by rw [List.mem_singleton.mp hb]; exact ⟨New.of R hp, s0.there p hp⟩⟩
    | dct k kvs =>
      obtain ⟨rfl, p, ho, rfl, hp, rfl, ow⟩ := q
      exact h ads G' _ (.ref p) (R.lay hp) (s0.trans (Nxt.of (Step.allocO R.sub hp))) ⟨p, [p], rfl, ow, fun b hb => by rw [List.mem_singleton.mp hb]; exact ⟨New.of R hp, s0.there p hp⟩⟩
    | ins _ _ => exact q.elim
    | boxD _ _ => exact q.elim
    | boxL _ _ => exact q.elim
theorem rbin_imp {g : Value → Value → Sem Value} {f : PV → PV → Option Arg} (ho : OpQ X c g f) {σ : L2.St} {H : Hp} {Q : VK} (h : TRof c r W (rBin f ea eb) σ H Q) : tOp (rAny2 X g) (TEof c r W ea) (TEof c r W eb) σ H Q := by
  obtain ⟨ads, G, env, R, h⟩ := h
  refine ⟨ads, G, env, R, Sat_mono (Sat_bind.mp h) (fun x e1 h1 ads1 G1 H1 v1 R1 s1 p1 => ?_) fun _ _ z => z⟩
  refine ⟨ads1, G1, e1, R1, Sat_mono (Sat_bind.mp h1) (fun y e2 h2 ads2 G2 H2 v2 R2 s2 p2 => ?_) fun x e z => z.weak s1.sub⟩
  cases q1 : look e2 x with
  | none => rw [q1] at h2; exact h2.elim
  | some t1 =>
    rw [q1] at h2
    cases q2 : look e2 y with
    | none => rw [q2] at h2; exact h2.elim
    | some t2 =>
      rw [q2] at h2
      obtain ⟨t, ht, h2⟩ := Sat_ofO.mp h2
      exact ho G2 H2 t1 t2 t v1 v2 Q ht R2.sub (look_rep R2 (p1.mono s2.sub) q1) (look_rep R2 p2 q2) (QOut.res R2 (s1.trans s2) h2)
theorem tr_bin {op : Operator} {f : PV → PV → Option Arg} (ho : OpQ X c (binaryOp op) f) (ha : PE X a (TEof c r W ea)) (hb : PE X b (TEof c r W eb)) : PE X (.BinOp a op b pos) (TRof c r W (rBin f ea eb)) :=
  PE.imp (pe_op opAny ha hb) fun _ _ _ h => rbin_imp ho h
theorem looks_rep {ads : Nat → List Addr} {G H : Hp} {σ : L2.St} {env : En} (R : RS c r ads G H σ env) : ∀ {xs : List Vl} {vs : List V} {ts : List PV}, VReps c σ G xs vs → looks env xs = some ts → Paired (WRep c G H) ts vs
  | [], _, _, h, e => by cases h; cases e; exact .nil
  | x :: xs, _, ts, ⟨v, u, e1, h, t⟩, e => by
    subst e1
    simp only [looks] at e
    cases q : look env x with
    | none => rw [q] at e; cases e
    | some a =>
      rw [q] at e
      cases q2 : looks env xs with
      | none => rw [q2] at e; cases e
      | some us =>
        rw [q2] at e
        cases e
        exact .cons (look_rep R h q) (looks_rep R t q2)
/-- f(e, ..), f a built-in function -/
theorem rbui_imp {g : Value} {f : List PV → Option Arg} (ho : CallQ X c g f) {σ : L2.St} {H : Hp} {Q : VK} (h : TRof c r W (rBui f el) σ H Q) : tCB (fun vs H Q => ∃ r, CallR X g r ∧ r vs H Q) (TAof c r W el) σ H Q := by
  obtain ⟨ads, G, env, R, h⟩ := h
  refine ⟨ads, G, env, R, Sat_mono (Sat_bind.mp h) (fun xs e1 h1 ads1 G1 H1 vs R1 s1 p1 => ?_) fun _ _ z => z⟩
  cases q : looks e1 xs with
  | none => rw [q] at h1; exact h1.elim
  | some ts =>
    rw [q] at h1
    obtain ⟨t, ht, h2⟩ := Sat_ofO.mp h1
    exact ho G1 H1 ts t vs Q ht R1.sub (looks_rep R1 p1 q) (QOut.res R1 s1 h2)
theorem callAny {g : Value} : CallR X g (fun vs H Q => ∃ r, CallR X g r ∧ r vs H Q) := fun pins s σ H xs us Q I rr ⟨r, h, q⟩ => h pins s σ H xs us Q I rr q
theorem tr_bui {x : Str} {id : String} {f : List PV → Option Arg} (ho : CallQ X c (.builtin id) f) (hg : Gl X x) (hm : X.mg x = none) (hv : bootBuiltins x = some (.builtin id)) (ha : PA X (a :: as) (TAof c r W el)) (hn : x ≠ "__name__" := by decide) (hdb : (x == ("__debug__" : Str)) = false := by decide)
    (he : starEach (a :: as) X.env = (false, eval a X.env) :: starEach as X.env := by rfl) (hpl : (backTo pos (starEach as X.env)).any (·.1) = false := by rfl) : PE X (.Call (.Name x p) (a :: as) [] pos) (TRof c r W (rBui f el)) :=
  PE.imp (pe_callB callAny hg hm hv ha hn hdb he hpl) fun _ _ _ h => rbui_imp ho h
theorem tr_buiT {x : Str} {T : String} {f : List PV → Option Arg} (ho : CallQ X c (.type T) f) (hg : Gl X x) (hm : X.mg x = none) (hv : bootBuiltins x = some (.type T)) (ha : PA X (a :: as) (TAof c r W el)) (hn : x ≠ "__name__" := by decide) (hdb : (x == ("__debug__" : Str)) = false := by decide)
    (he : starEach (a :: as) X.env = (false, eval a X.env) :: starEach as X.env := by rfl) (hpl : (backTo pos (starEach as X.env)).any (·.1) = false := by rfl) : PE X (.Call (.Name x p) (a :: as) [] pos) (TRof c r W (rBui f el)) :=
  PE.imp (pe_callTy callAny hg hm hv ha hn hdb he hpl) fun _ _ _ h => rbui_imp ho h
end
end TreeL
end
section
/-! TL8: the operations. -/
namespace TreeL
open PySem PySem.Spec PyProof.Rows L2

/-! ### texts that may be held -/
def cpOk (l : List Nat) : Prop := ∀ n ∈ l, n < 0x110000
theorem strG_iff {x : Str} : StrG x ↔ (TL.tl x).length ≤ sizeLine ∧ cpOk (TL.tl x) := by
  unfold StrG PyData.strOk cpOk
  rw [TL.len_tl, ← Array.all_toList, List.all_eq_true]
  simp
theorem cpOk.append {l m : List Nat} (h : cpOk l) (h' : cpOk m) : cpOk (l ++ m) := fun n hn => by
  rcases List.mem_append.mp hn with z | z
  · exact h n z
  · exact h' n z
theorem StrG.sub {x y : Str} (h : StrG x) (s : ∀ n ∈ TL.tl y, n ∈ TL.tl x) (l : (TL.tl y).length ≤ (TL.tl x).length) : StrG y := by
  rw [strG_iff] at h ⊢
  exact ⟨Nat.le_trans l h.1, fun n hn => h.2 n (s n hn)⟩
theorem StrG.add {x y : Str} (h : StrG x) (h' : StrG y) (l : x.length + y.length ≤ LIM) : StrG (x ++ y) := by
  rw [strG_iff] at h h' ⊢
  rw [TL.tl_append]
  refine ⟨?_, h.2.append h'.2⟩
  rw [List.length_append, ← TL.len_tl, ← TL.len_tl]
  exact lim_line l
theorem joinL_mem {S : List Nat} : ∀ {ps : List (List Nat)} {n : Nat}, n ∈ TL.joinL S ps → n ∈ S ∨ ∃ p ∈ ps, n ∈ p
  | [], n, h => by simp [TL.joinL] at h
  | [p], n, h => by
    simp only [TL.joinL] at h
    exact .inr ⟨p, List.mem_cons_self, h⟩
  | p :: q :: r, n, h => by
    simp only [TL.joinL, List.mem_append] at h
    rcases h with h | h | h
    · exact .inr ⟨p, List.mem_cons_self, h⟩
    · exact .inl h
    · rcases joinL_mem h with z | ⟨u, z1, z2⟩
      · exact .inl z
      · exact .inr ⟨u, List.mem_cons_of_mem _ z1, z2⟩
theorem joinL_has {S : List Nat} : ∀ {ps : List (List Nat)} {p : List Nat}, p ∈ ps → (∀ n ∈ p, n ∈ TL.joinL S ps) ∧ p.length ≤ (TL.joinL S ps).length
  | [q], p, h => by
    rw [List.mem_singleton.mp h]
    simp [TL.joinL]
  | q :: u :: r, p, h => by
    simp only [TL.joinL, List.mem_append, List.length_append]
    rcases List.mem_cons.mp h with z | z
    · subst z
      exact ⟨fun n hn => .inl hn, by omega⟩
    · obtain ⟨a, b⟩ := joinL_has (S := S) z
      exact ⟨fun n hn => .inr (.inr (a n hn)), by omega⟩
theorem joinL_len {S : List Nat} : ∀ {ps : List (List Nat)}, (TL.joinL S ps).length ≤ (ps.map List.length).sum + ps.length * S.length
  | [] => by simp [TL.joinL]
  | [p] => by simp [TL.joinL]
  | p :: q :: r => by
    have ih := joinL_len (S := S) (ps := q :: r)
    simp only [TL.joinL, List.length_append, List.map_cons, List.sum_cons, List.length_cons, Nat.succ_mul, Nat.add_mul, Nat.one_mul] at ih ⊢
    omega
theorem split_strG {x y p : Str} (h : StrG x) (hp : p ∈ Txt.split x y) : StrG p := by
  have e := PySem.StrLaws.join_split x y
  have e2 := TL.tl_join y (Txt.split x y)
  rw [e] at e2
  have m := joinL_has (S := TL.tl y) (List.mem_map_of_mem (f := TL.tl) hp)
  rw [← e2] at m
  exact h.sub m.1 m.2
theorem join_strG {a : Str} {ys : List Str} (h : StrG a) (hs : ∀ y ∈ ys, StrG y) (l : (ys.map (·.length)).sum + ys.length * a.length ≤ LIM) : StrG (Txt.join a ys) := by
  rw [TL.join_eq, strG_iff, TL.tl_join]
  rw [strG_iff] at h
  have q := joinL_len (S := TL.tl a) (ps := ys.map TL.tl)
  rw [List.map_map, List.length_map] at q
  have e1 : (List.length ∘ TL.tl) = fun y : Str => y.length := by funext y; exact (TL.len_tl y).symm
  rw [e1, ← TL.len_tl a] at q
  refine ⟨lim_line (Nat.le_trans q l), fun n hn => ?_⟩
  rcases joinL_mem hn with z | ⟨p, z1, z2⟩
  · exact h.2 n z
  · obtain ⟨y, hy, rfl⟩ := List.mem_map.mp z1
    exact (strG_iff.mp (hs y hy)).2 n z2
theorem strG_sub {z : Str} (h : StrG z) {l : List Nat} (hl : l.Sublist (TL.tl z)) : StrG ⟨l.toArray⟩ := h.sub (fun n hn => hl.subset (by simpa [TL.tl] using hn)) (by simpa [TL.tl] using hl.length_le)
theorem strG_small {z : Str} (h : ∀ n ∈ TL.tl z, n < 128) (l : z.length ≤ LIM) : StrG z := strG_iff.mpr ⟨by rw [← TL.len_tl]; exact lim_line l, fun n hn => by have := h n hn; omega⟩

/-! ### functions on trees -/
def eqP (a b : PV) : Option PV := if dat 64 a && dat 64 b then some (.bl (peq a b)) else none
def neP (a b : PV) : Option PV := if dat 64 a && dat 64 b then some (.bl (!peq a b)) else none
def addA : PV → PV → Option Arg
  | .int i, .int j => some (.t (.int (i + j)))
  | .str x, .str y => if x.length + y.length ≤ LIM then some (.t (.str (x ++ y))) else none
  | .lst xs, .lst ys => if xs.length + ys.length ≤ LIM then some (.ow (.lst (xs ++ ys))) else none
  | .tup xs, .tup ys => if xs.length + ys.length ≤ LIM then some (.t (.tup (xs ++ ys))) else none
  | _, _ => none
@[simp] def subP : PV → PV → Option PV
  | .int i, .int j => some (.int (i - j))
  | _, _ => none
def mulA : PV → PV → Option Arg
  | .int i, .int j => if i.natAbs.log2 + j.natAbs.log2 < 1000000 then some (.t (.int (i * j))) else none
  | .lst xs, .int k => if 0 ≤ k ∧ k ≤ 1000000 ∧ xs.length * k.toNat ≤ LIM then some (.ow (.lst (List.replicate k.toNat xs).flatten)) else none
  | _, _ => none
@[simp] def fdivP : PV → PV → Option PV
  | .int i, .int j => if 0 < j ∧ j.natAbs.log2 < 9000 then some (.int (i / j)) else none
  | _, _ => none
@[simp] def modP : PV → PV → Option PV
  | .int i, .int j => if 0 < j then some (.int (i % j)) else none
  | _, _ => none
def powP : PV → PV → Option PV
  | .int i, .int j => if 0 ≤ j ∧ j ≤ 1000000 ∧ i.natAbs < 2 ^ 64 then some (.int (i ^ j.toNat)) else none
  | _, _ => none
@[simp] def ltP : PV → PV → Option PV
  | .int i, .int j => some (.bl (decide (i < j)))
  | .str x, .str y => some (.bl (decide (x.cps.toList < y.cps.toList)))
  | _, _ => none
@[simp] def leP : PV → PV → Option PV
  | .int i, .int j => some (.bl (decide (i ≤ j)))
  | .str x, .str y => some (.bl (!decide (y.cps.toList < x.cps.toList)))
  | _, _ => none
@[simp] def gtP : PV → PV → Option PV
  | .int i, .int j => some (.bl (decide (j < i)))
  | .str x, .str y => some (.bl (decide (y.cps.toList < x.cps.toList)))
  | _, _ => none
@[simp] def geP : PV → PV → Option PV
  | .int i, .int j => some (.bl (decide (j ≤ i)))
  | .str x, .str y => some (.bl (!decide (x.cps.toList < y.cps.toList)))
  | _, _ => none
def inS (x y : Str) : Bool := match x.cps.toList with
  | [n] => decide (n ∈ y.cps.toList)
  | _ => !(Builtin.Str.occurrences y x 0 y.length 1).isEmpty
def inB : PV → PV → Option Bool
  | .str x, .str y => some (inS x y)
  | k, .lst xs => if dat 63 k && datL 63 xs then some (xs.any fun z => peq z k) else none
  | k, .tup xs => if dat 63 k && datL 63 xs then some (xs.any fun z => peq z k) else none
  | _, _ => none
def inP (a b : PV) : Option PV := (inB a b).map .bl
def ninP (a b : PV) : Option PV := (inB a b).map fun k => .bl (!k)
@[simp] def isNon : PV → Bool
  | .non => true
  | _ => false
@[simp] def isNP : PV → PV → Option PV
  | a, .non => some (.bl (isNon a))
  | _, _ => none
@[simp] def notNP : PV → PV → Option PV
  | a, .non => some (.bl (!isNon a))
  | _, _ => none
@[simp] def negP : PV → Option PV
  | .int i => some (.int (-i))
  | _ => none

section
variable {X : Cx} {c : TC}
theorem VOut.same {G H : Hp} {t : PV} {Q : VK} (h : VOut c G H t Q) (s : Sub G H) {v : V} (r : Rep c G t v) : Q v H := h v H G (Step.refl s) r
theorem VOut.flat {G H : Hp} {t : PV} {Q : VK} (h : VOut c G H t Q) (s : Sub G H) {v : V} (r : ∀ G, Rep c G t v) : Q v H := h v H G (Step.refl s) (r G)
theorem rep_bl {k : Bool} (G : Hp) : Rep c G (.bl k) (.bl k) := by simp [Rep]
theorem rep_int {k : Int} (G : Hp) : Rep c G (.int k) (.int k) := by simp [Rep]
theorem rep_non (G : Hp) : Rep c G .non .non := by simp [Rep]
theorem rep_str {x : Str} (h : StrG x) (G : Hp) : Rep c G (.str x) (.str x) := by simp only [Rep]; exact ⟨trivial, h⟩
theorem ite_some {α : Type} {p : Prop} [Decidable p] {x y : α} (h : (if p then some x else none) = some y) : p ∧ x = y := by
  by_cases hp : p
  · rw [if_pos hp] at h; exact ⟨hp, by cases h; rfl⟩
  · rw [if_neg hp] at h; cases h
theorem op_eqP (hK : X.K = c.K) (hu : X.A.units + 64 < cLine) : OpP X c (compareOp .Eq) eqP := fun G H t1 t2 t v1 v2 Q e s w1 w2 q => by
  obtain ⟨d, rfl⟩ := ite_some e
  rw [Bool.and_eq_true] at d
  obtain ⟨a1, a2⟩ := (w1.rep s).shape d.1
  obtain ⟨b1, b2⟩ := (w2.rep s).shape d.2
  refine ⟨_, op_eqD hu, toD t1, toD t2, by rw [hK]; exact a1, by rw [hK]; exact b1, a2, b2, ?_⟩
  rw [peq_eqv d.1 d.2]
  exact q.flat s rep_bl
theorem op_neP (hK : X.K = c.K) (hu : X.A.units + 64 < cLine) : OpP X c (compareOp .NotEq) neP := fun G H t1 t2 t v1 v2 Q e s w1 w2 q => by
  obtain ⟨d, rfl⟩ := ite_some e
  rw [Bool.and_eq_true] at d
  obtain ⟨a1, a2⟩ := (w1.rep s).shape d.1
  obtain ⟨b1, b2⟩ := (w2.rep s).shape d.2
  refine ⟨_, op_neD hu, toD t1, toD t2, by rw [hK]; exact a1, by rw [hK]; exact b1, a2, b2, ?_⟩
  rw [peq_eqv d.1 d.2]
  exact q.flat s rep_bl
theorem QOut.t {G H : Hp} {t : PV} {Q : VK} (h : QOut c G H (.t t) Q) : VOut c G H t Q := fun v H' G' s r => h v H' G' ⟨s, r⟩
theorem QOut.list {G H : Hp} {ts : List PV} {vs : List V} {Q : VK} (h : QOut c G H (.ow (.lst ts)) Q) (r : RepL c G ts vs) : ∀ p, H p = none → Q (.ref p) (upd H p (.lst vs)) := fun p hp => h (.ref p) _ G ⟨rfl, p, vs, rfl, hp, rfl, r⟩
theorem VOut.tup {G H : Hp} {ts : List PV} {vs : List V} {Q : VK} (h : VOut c G H (.tup ts) Q) (s : Sub G H) (r : RepL c G ts vs) : ∀ p, H p = none → Q (.ref p) (upd H p (.tup vs)) := fun p hp => by
  have st := Step.alloc (o := .tup vs) s hp
  refine h _ _ _ st ?_
  simp only [Rep]
  exact ⟨p, vs, rfl, .inl (.inl upd_same), r.mono st.sub⟩
theorem op_addA (hK : X.K = c.K) : OpQ X c (binaryOp .Add) addA := fun G H t1 t2 t v1 v2 Q e s w1 w2 q => by
  unfold addA at e
  split at e
  · cases w1; cases w2; cases e
    exact ⟨_, op_add, _, _, rfl, rfl, q.t.flat s rep_int⟩
  · obtain ⟨hl, rfl⟩ := ite_some e
    obtain ⟨rfl, g1⟩ := w1
    obtain ⟨rfl, g2⟩ := w2
    exact ⟨_, op_add_str, _, _, rfl, rfl, lim_line hl, q.t.flat s (rep_str (g1.add g2 hl))⟩
  · obtain ⟨hl, rfl⟩ := ite_some e
    obtain ⟨p1, vs1, rfl, h1, r1⟩ := w1
    obtain ⟨p2, vs2, rfl, h2, r2⟩ := w2
    exact ⟨_, op_cat, p1, p2, vs1, vs2, rfl, rfl, h1, h2, by rw [r1.length, r2.length]; exact lim_line hl, q.list (r1.append r2)⟩
  · obtain ⟨hl, rfl⟩ := ite_some e
    obtain ⟨p1, vs1, rfl, h1, r1⟩ := w1
    obtain ⟨p2, vs2, rfl, h2, r2⟩ := w2
    refine ⟨_, op_catA, p1, p2, vs1, vs2, rfl, rfl, by rw [hK]; exact s.sqT h1, by rw [hK]; exact s.sqT h2, by rw [r1.length, r2.length]; exact lim_line hl, fun z => q.t.same s ?_, fun _ z => q.t.same s ?_, fun _ _ => q.t.tup s (r1.append r2)⟩
    · simp only [Rep]
      refine ⟨p2, vs2, rfl, h2, ?_⟩
      have e := r1.append r2
      rw [z, List.nil_append] at e
      exact e
    · simp only [Rep]
      refine ⟨p1, vs1, rfl, h1, ?_⟩
      have e := r1.append r2
      rw [z, List.append_nil] at e
      exact e
  · cases e
theorem op_subP : OpP X c (binaryOp .Sub) subP := fun G H t1 t2 t v1 v2 Q e s w1 w2 q => by
  unfold subP at e
  split at e
  · cases w1; cases w2; cases e
    exact ⟨_, op_sub, _, _, rfl, rfl, q.flat s rep_int⟩
  · cases e
theorem op_mulA : OpQ X c (binaryOp .Mult) mulA := fun G H t1 t2 t v1 v2 Q e s w1 w2 q => by
  unfold mulA at e
  split at e
  · obtain ⟨hl, rfl⟩ := ite_some e
    cases w1; cases w2
    exact ⟨_, op_mulW, _, _, rfl, rfl, hl, q.t.flat s rep_int⟩
  · obtain ⟨hl, rfl⟩ := ite_some e
    obtain ⟨p1, vs1, rfl, h1, r1⟩ := w1
    cases w2
    have rr : ∀ n : Nat, ∀ {xs : List PV} {vs : List V}, RepL c G xs vs → RepL c G (List.replicate n xs).flatten (List.replicate n vs).flatten := fun n => by
      induction n with
      | zero => intro xs vs _; exact RepL.nil
      | succ n ih => intro xs vs r; rw [List.replicate_succ, List.replicate_succ]; exact r.append (ih r)
    exact ⟨_, op_rep, p1, _, vs1, rfl, rfl, h1, by omega, by omega, by rw [r1.length]; exact lim_line hl.2.2, q.list (rr _ r1)⟩
  · cases e
theorem op_fdivP : OpP X c (binaryOp .FloorDiv) fdivP := fun G H t1 t2 t v1 v2 Q e s w1 w2 q => by
  unfold fdivP at e
  split at e
  · obtain ⟨hl, rfl⟩ := ite_some e
    cases w1; cases w2
    exact ⟨_, op_fdivW, _, _, rfl, rfl, hl, q.flat s rep_int⟩
  · cases e
theorem op_modP : OpP X c (binaryOp .Mod) modP := fun G H t1 t2 t v1 v2 Q e s w1 w2 q => by
  unfold modP at e
  split at e
  · obtain ⟨hl, rfl⟩ := ite_some e
    cases w1; cases w2
    exact ⟨_, op_mod, _, _, rfl, rfl, hl, q.flat s rep_int⟩
  · cases e
theorem op_powP : OpP X c (binaryOp .Pow) powP := fun G H t1 t2 t v1 v2 Q e s w1 w2 q => by
  unfold powP at e
  split at e
  · obtain ⟨hl, rfl⟩ := ite_some e
    cases w1; cases w2
    exact ⟨_, op_pow, _, _, rfl, rfl, hl, q.flat s rep_int⟩
  · cases e
theorem op_ltP : OpP X c (compareOp .Lt) ltP := fun G H t1 t2 t v1 v2 Q e s w1 w2 q => by
  unfold ltP at e
  split at e
  · cases w1; cases w2; cases e
    exact ⟨_, op_lt, _, _, rfl, rfl, q.flat s rep_bl⟩
  · obtain ⟨rfl, g1⟩ := w1
    obtain ⟨rfl, g2⟩ := w2
    cases e
    exact ⟨_, op_lt_str, _, _, rfl, rfl, q.flat s rep_bl⟩
  · cases e
theorem op_leP : OpP X c (compareOp .LtE) leP := fun G H t1 t2 t v1 v2 Q e s w1 w2 q => by
  unfold leP at e
  split at e
  · cases w1; cases w2; cases e
    exact ⟨_, op_le, _, _, rfl, rfl, q.flat s rep_bl⟩
  · obtain ⟨rfl, g1⟩ := w1
    obtain ⟨rfl, g2⟩ := w2
    cases e
    exact ⟨_, op_le_str, _, _, rfl, rfl, q.flat s rep_bl⟩
  · cases e
theorem op_gtP : OpP X c (compareOp .Gt) gtP := fun G H t1 t2 t v1 v2 Q e s w1 w2 q => by
  unfold gtP at e
  split at e
  · cases w1; cases w2; cases e
    exact ⟨_, op_gt, _, _, rfl, rfl, q.flat s rep_bl⟩
  · obtain ⟨rfl, g1⟩ := w1
    obtain ⟨rfl, g2⟩ := w2
    cases e
    exact ⟨_, op_gt_str, _, _, rfl, rfl, q.flat s rep_bl⟩
  · cases e
theorem op_geP : OpP X c (compareOp .GtE) geP := fun G H t1 t2 t v1 v2 Q e s w1 w2 q => by
  unfold geP at e
  split at e
  · cases w1; cases w2; cases e
    exact ⟨_, op_ge, _, _, rfl, rfl, q.flat s rep_bl⟩
  · obtain ⟨rfl, g1⟩ := w1
    obtain ⟨rfl, g2⟩ := w2
    cases e
    exact ⟨_, op_ge_str, _, _, rfl, rfl, q.flat s rep_bl⟩
  · cases e
theorem one_sign {x : Str} {n : Nat} (h : x.cps.toList = [n]) : x = ⟨#[n]⟩ := TL.ext_tl h
/-- x in a tuple of data of any depth -/
def rInT (K : PySem.W.Frag) (neg : Bool) : R2 := fun x y H Q => ∃ d ds, Dp K H x d ∧ Dp K H y (.tuple ds) ∧ SeqAt.shaped d = true ∧ SeqAt.shaped (.tuple ds) = true ∧ Q (.bl (if neg then !(ds.any fun z => PyData.eqv z d) else ds.any fun z => PyData.eqv z d)) H
theorem op_inT (hu : X.A.units + 65 < cLine) : OpR X (compareOp .In) (rInT X.K false) := fun pins st σ H x y v u Q I rx ry ⟨d, ds, hd, he, sd, se, q⟩ => by
  obtain ⟨as, r1⟩ := Dp.reads I d x v hd rx
  obtain ⟨bs, r2⟩ := Dp.reads I (.tuple ds) y u he ry
  exact SeqAt.in_tuple_reads r2 r1 (SeqAt.canLay_of_shaped se) (SeqAt.canLay_of_shaped sd) (room_in_shaped sd hu) ⟨.bl _, H, I, rfl, q⟩
theorem op_notInT (hu : X.A.units + 65 < cLine) : OpR X (compareOp .NotIn) (rInT X.K true) := fun pins st σ H x y v u Q I rx ry ⟨d, ds, hd, he, sd, se, q⟩ => by
  obtain ⟨as, r1⟩ := Dp.reads I d x v hd rx
  obtain ⟨bs, r2⟩ := Dp.reads I (.tuple ds) y u he ry
  exact SeqAt.notIn_tuple_reads r2 r1 (SeqAt.canLay_of_shaped se) (SeqAt.canLay_of_shaped sd) (room_in_shaped sd hu) ⟨.bl _, H, I, rfl, q⟩
theorem dat_mono : ∀ {n m : Nat} {t : PV}, n ≤ m → dat n t = true → dat m t = true := by
  have key : ∀ n : Nat, (∀ m t, n ≤ m → dat n t = true → dat m t = true) := fun n => by
    induction n with
    | zero => intro m t _ h; cases t <;> cases m <;> simp_all [dat]
    | succ n ih =>
      intro m t hm h
      cases m with
      | zero => omega
      | succ m =>
        have hl : ∀ xs : List PV, datL n xs = true → datL m xs = true := fun xs => by
          induction xs with
          | nil => intro _; simp [datL]
          | cons x xs ihx =>
            intro hx
            rw [datL, Bool.and_eq_true] at hx ⊢
            exact ⟨ih m x (by omega) hx.1, ihx hx.2⟩
        cases t with
        | lst xs => rw [dat] at h ⊢; exact hl xs h
        | tup xs => rw [dat] at h ⊢; exact hl xs h
        | ins _ _ => simp [dat] at h
        | dct _ _ => simp [dat] at h
        | scr _ => simp [dat] at h
        | cls _ => simp [dat] at h
        | _ => simp [dat]
  exact fun {n m t} h1 h2 => key n m t h1 h2
theorem in_seq_fact {G H : Hp} {t1 : PV} {xs : List PV} {v1 : V} {b : Bool} (s : Sub G H) (e : (if dat 63 t1 && datL 63 xs then some (xs.any fun z => peq z t1) else none) = some b) (w1 : WRep c G H t1 v1) :
    Dp c.K H v1 (toD t1) ∧ SeqAt.shaped (toD t1) = true ∧ datL 63 xs = true ∧ b = ((toDs xs).any fun z => PyData.eqv z (toD t1)) := by
  obtain ⟨d, rfl⟩ := ite_some e
  rw [Bool.and_eq_true] at d
  obtain ⟨a1, a2⟩ := (w1.rep s).shape (dat_mono (by omega) d.1)
  exact ⟨a1, a2, d.2, (peqL_toDs d.2 d.1).symm⟩
theorem op_inP (hK : X.K = c.K) (hu : X.A.units + 65 < cLine) : OpP X c (compareOp .In) inP := fun G H t1 t2 t v1 v2 Q e s w1 w2 q => by
  unfold inP at e
  cases qb : inB t1 t2 with
  | none => rw [qb] at e; cases e
  | some b =>
    rw [qb] at e
    cases e
    unfold inB at qb
    split at qb
    · obtain ⟨rfl, g1⟩ := w1
      obtain ⟨rfl, g2⟩ := w2
      rename_i x y
      cases qb
      unfold inS at q
      split at q
      · rename_i n hn
        exact ⟨_, op_in_sign, n, y, by rw [one_sign hn], rfl, q.flat s rep_bl⟩
      · exact ⟨_, op_in_str, _, _, rfl, rfl, q.flat s rep_bl⟩
    · rename_i k xs
      obtain ⟨a1, a2, d, rfl⟩ := in_seq_fact s qb w1
      obtain ⟨b1, b2⟩ := (w2.rep s).shape (t := .lst xs) (by rw [dat]; exact d)
      rw [toD] at b1 b2
      exact ⟨_, op_inD hu, toD t1, toDs xs, by rw [hK]; exact a1, by rw [hK]; exact b1, a2, b2, q.flat s rep_bl⟩
    · rename_i k xs
      obtain ⟨a1, a2, d, rfl⟩ := in_seq_fact s qb w1
      obtain ⟨b1, b2⟩ := (w2.rep s).shape (t := .tup xs) (by rw [dat]; exact d)
      rw [toD] at b1 b2
      exact ⟨_, op_inT hu, toD t1, toDs xs, by rw [hK]; exact a1, by rw [hK]; exact b1, a2, b2, q.flat s rep_bl⟩
    · cases qb
theorem op_ninP (hK : X.K = c.K) (hu : X.A.units + 65 < cLine) : OpP X c (compareOp .NotIn) ninP := fun G H t1 t2 t v1 v2 Q e s w1 w2 q => by
  unfold ninP at e
  cases qb : inB t1 t2 with
  | none => rw [qb] at e; cases e
  | some b =>
    rw [qb] at e
    cases e
    unfold inB at qb
    split at qb
    · obtain ⟨rfl, g1⟩ := w1
      obtain ⟨rfl, g2⟩ := w2
      rename_i x y
      cases qb
      unfold inS at q
      split at q
      · rename_i n hn
        exact ⟨_, op_notIn_sign, n, y, by rw [one_sign hn], rfl, q.flat s rep_bl⟩
      · exact ⟨_, op_notIn_str, _, _, rfl, rfl, q.flat s rep_bl⟩
    · rename_i k xs
      obtain ⟨a1, a2, d, rfl⟩ := in_seq_fact s qb w1
      obtain ⟨b1, b2⟩ := (w2.rep s).shape (t := .lst xs) (by rw [dat]; exact d)
      rw [toD] at b1 b2
      exact ⟨_, op_notInD hu, toD t1, toDs xs, by rw [hK]; exact a1, by rw [hK]; exact b1, a2, b2, q.flat s rep_bl⟩
    · rename_i k xs
      obtain ⟨a1, a2, d, rfl⟩ := in_seq_fact s qb w1
      obtain ⟨b1, b2⟩ := (w2.rep s).shape (t := .tup xs) (by rw [dat]; exact d)
      rw [toD] at b1 b2
      exact ⟨_, op_notInT hu, toD t1, toDs xs, by rw [hK]; exact a1, by rw [hK]; exact b1, a2, b2, q.flat s rep_bl⟩
    · cases qb
theorem isNon_rep {G H : Hp} {t : PV} {v : V} (w : WRep c G H t v) : decide (v = .non) = isNon t := by
  cases t with
  | non => cases w; rfl
  | bl _ => cases w; rfl
  | int _ => cases w; rfl
  | str _ => obtain ⟨rfl, _⟩ := w; rfl
  | lst _ => obtain ⟨p, vs, rfl, _⟩ := w; rfl
  | tup _ => obtain ⟨p, vs, rfl, _⟩ := w; rfl
  | ins _ _ => obtain ⟨p, dx, gs, rfl, _⟩ := w; rfl
  | dct _ _ => obtain ⟨p, rfl, _⟩ := w; rfl
  | scr _ => obtain ⟨p, rfl, _⟩ := w; rfl
  | cls _ => cases w; rfl
theorem op_isNP : OpP X c (compareOp .Is) isNP := fun G H t1 t2 t v1 v2 Q e s w1 w2 q => by
  unfold isNP at e
  split at e
  · cases w2
    cases e
    exact ⟨_, op_isN, rfl, by rw [isNon_rep w1]; exact q.flat s rep_bl⟩
  · cases e
theorem op_notNP : OpP X c (compareOp .IsNot) notNP := fun G H t1 t2 t v1 v2 Q e s w1 w2 q => by
  unfold notNP at e
  split at e
  · cases w2
    cases e
    exact ⟨_, op_notN, rfl, by rw [isNon_rep w1]; exact q.flat s rep_bl⟩
  · cases e
theorem un_negP : UnP X c (unaryOp .USub) negP := fun G H t1 t v1 Q e s w1 q => by
  unfold negP at e
  split at e
  · cases w1; cases e
    exact ⟨_, un_neg, _, rfl, q.flat s rep_int⟩
  · cases e
end

/-! ### built-in functions -/
def lenF : List PV → Option Arg
  | [.lst xs] => some (.t (.int xs.length))
  | [.tup xs] => some (.t (.int xs.length))
  | [.str x] => some (.t (.int x.length))
  | [.scr ns] => some (.t (.int ns.length))
  | _ => none
def listF : List PV → Option Arg
  | [.lst xs] => some (.ow (.lst xs))
  | [.tup xs] => some (.ow (.lst xs))
  | _ => none
def tupleF : List PV → Option Arg
  | [.lst xs] => some (.t (.tup xs))
  | [.tup xs] => some (.t (.tup xs))
  | _ => none
def intF : List PV → Option Arg
  | [.int i] => some (.t (.int i))
  | [.bl k] => some (.t (.int (if k then 1 else 0)))
  | [.str a] => if a.length ≤ 640 then (PySem.intText? a).map fun n => .t (.int n) else none
  | _ => none
def boolF : List PV → Option Arg
  | [.int i] => some (.t (.bl (i != 0)))
  | [.bl k] => some (.t (.bl k))
  | _ => none
def strF : List PV → Option Arg
  | [.int i] => if 0 ≤ i ∧ i < 10 ^ 100 then some (.t (.str (Str.ofString (toString i)))) else none
  | [.str a] => some (.t (.str a))
  | _ => none
def absF : List PV → Option Arg
  | [.int i] => some (.t (.int (if i < 0 then -i else i)))
  | _ => none
def maxF : List PV → Option Arg
  | [.int i, .int j] => some (.t (.int (if j > i then j else i)))
  | _ => none
def minF : List PV → Option Arg
  | [.int i, .int j] => some (.t (.int (if j < i then j else i)))
  | _ => none
def boolsP : List PV → Option (List Bool)
  | [] => some []
  | .bl b :: r => (boolsP r).map (b :: ·)
  | _ => none
def strsP : List PV → Option (List Str)
  | [] => some []
  | .str b :: r => (strsP r).map (b :: ·)
  | _ => none
def intsP : List PV → Option (List Int)
  | [] => some []
  | .int b :: r => (intsP r).map (b :: ·)
  | _ => none
def allF : List PV → Option Arg
  | [.lst xs] => (boolsP xs).map fun bs => .t (.bl (bs.all id))
  | _ => none
def anyF : List PV → Option Arg
  | [.lst xs] => (boolsP xs).map fun bs => .t (.bl (bs.any id))
  | _ => none
def sumF : List PV → Option Arg
  | [.lst xs] => (intsP xs).map fun bs => .t (.int bs.sum)
  | _ => none
section
variable {X : Cx} {c : TC}
theorem bools_rep {G : Hp} : ∀ {ts : List PV} {vs : List V} {bs : List Bool}, RepL c G ts vs → boolsP ts = some bs → vs = bs.map V.bl
  | [], _, _, h, e => by cases h; cases e; rfl
  | .bl b :: ts, _, bs, ⟨v, r, e1, h, t⟩, e => by
    subst e1
    simp only [boolsP] at e
    cases q : boolsP ts with
    | none => rw [q] at e; cases e
    | some us =>
      rw [q] at e
      cases e
      simp only [Rep] at h
      rw [h, bools_rep t q]
      rfl
  | .non :: _, _, _, _, e => by cases e
  | .int _ :: _, _, _, _, e => by cases e
  | .str _ :: _, _, _, _, e => by cases e
  | .lst _ :: _, _, _, _, e => by cases e
  | .tup _ :: _, _, _, _, e => by cases e
  | .ins _ _ :: _, _, _, _, e => by cases e
  | .dct _ _ :: _, _, _, _, e => by cases e
  | .scr _ :: _, _, _, _, e => by cases e
  | .cls _ :: _, _, _, _, e => by cases e
theorem ints_rep {G : Hp} : ∀ {ts : List PV} {vs : List V} {bs : List Int}, RepL c G ts vs → intsP ts = some bs → vs = bs.map V.int
  | [], _, _, h, e => by cases h; cases e; rfl
  | .int b :: ts, _, bs, ⟨v, r, e1, h, t⟩, e => by
    subst e1
    simp only [intsP] at e
    cases q : intsP ts with
    | none => rw [q] at e; cases e
    | some us =>
      rw [q] at e
      cases e
      simp only [Rep] at h
      rw [h, ints_rep t q]
      rfl
  | .non :: _, _, _, _, e => by cases e
  | .bl _ :: _, _, _, _, e => by cases e
  | .str _ :: _, _, _, _, e => by cases e
  | .lst _ :: _, _, _, _, e => by cases e
  | .tup _ :: _, _, _, _, e => by cases e
  | .ins _ _ :: _, _, _, _, e => by cases e
  | .dct _ _ :: _, _, _, _, e => by cases e
  | .scr _ :: _, _, _, _, e => by cases e
  | .cls _ :: _, _, _, _, e => by cases e
theorem strs_rep {G : Hp} : ∀ {ts : List PV} {vs : List V} {bs : List Str}, RepL c G ts vs → strsP ts = some bs → vs = bs.map V.str ∧ ∀ y ∈ bs, StrG y
  | [], _, _, h, e => by cases h; cases e; exact ⟨rfl, fun _ z => nomatch z⟩
  | .str b :: ts, _, bs, ⟨v, r, e1, h, t⟩, e => by
    subst e1
    simp only [strsP] at e
    cases q : strsP ts with
    | none => rw [q] at e; cases e
    | some us =>
      rw [q] at e
      cases e
      simp only [Rep] at h
      obtain ⟨z1, z2⟩ := strs_rep t q
      refine ⟨by rw [h.1, z1]; rfl, fun y hy => ?_⟩
      rcases List.mem_cons.mp hy with w | w
      · rw [w]; exact h.2
      · exact z2 y w
  | .non :: _, _, _, _, e => by cases e
  | .bl _ :: _, _, _, _, e => by cases e
  | .int _ :: _, _, _, _, e => by cases e
  | .lst _ :: _, _, _, _, e => by cases e
  | .tup _ :: _, _, _, _, e => by cases e
  | .ins _ _ :: _, _, _, _, e => by cases e
  | .dct _ _ :: _, _, _, _, e => by cases e
  | .scr _ :: _, _, _, _, e => by cases e
  | .cls _ :: _, _, _, _, e => by cases e
theorem pair1 {G H : Hp} {a : PV} {vs : List V} (p : Paired (WRep c G H) [a] vs) : ∃ v, vs = [v] ∧ WRep c G H a v := by
  cases p with
  | cons h t => cases t; exact ⟨_, rfl, h⟩
theorem pair2 {G H : Hp} {a b : PV} {vs : List V} (p : Paired (WRep c G H) [a, b] vs) : ∃ v u, vs = [v, u] ∧ WRep c G H a v ∧ WRep c G H b u := by
  cases p with
  | cons h t =>
    obtain ⟨u, rfl, h2⟩ := pair1 t
    exact ⟨_, _, rfl, h, h2⟩
theorem bu_len (hK : X.K = c.K) : CallQ X c (.builtin "len") lenF := fun G H ts t vs Q e s p q => by
  unfold lenF at e
  split at e
  · obtain ⟨v, rfl, a, ws, rfl, hx, rr⟩ := pair1 p
    cases e
    exact ⟨_, call_len_seq, a, ws, rfl, .inl (.inl (.inl hx)), by rw [rr.length]; exact q.t.flat s rep_int⟩
  · obtain ⟨v, rfl, a, ws, rfl, hx, rr⟩ := pair1 p
    cases e
    exact ⟨_, call_len_seq, a, ws, rfl, .inr (by rw [hK]; exact s.sqT hx), by rw [rr.length]; exact q.t.flat s rep_int⟩
  · obtain ⟨v, rfl, rfl, g⟩ := pair1 p
    cases e
    exact ⟨_, call_len_str, _, rfl, g.1, q.t.flat s rep_int⟩
  · obtain ⟨v, rfl, a, rfl, hx⟩ := pair1 p
    cases e
    exact ⟨_, call_len_seq, a, _, rfl, .inl (by rw [hK]; exact s.sqL hx), by rw [List.length_map]; exact q.t.flat s rep_int⟩
  · cases e
theorem bu_list (hK : X.K = c.K) : CallQ X c (.type "list") listF := fun G H ts t vs Q e s p q => by
  unfold listF at e
  split at e
  · obtain ⟨v, rfl, a, ws, rfl, hx, rr⟩ := pair1 p
    cases e
    exact ⟨_, call_list_of, a, ws, rfl, .inl (.inl (.inl hx)), q.list rr⟩
  · obtain ⟨v, rfl, a, ws, rfl, hx, rr⟩ := pair1 p
    cases e
    exact ⟨_, call_list_of, a, ws, rfl, .inr (by rw [hK]; exact s.sqT hx), q.list rr⟩
  · cases e
theorem bu_tuple (hK : X.K = c.K) : CallQ X c (.type "tuple") tupleF := fun G H ts t vs Q e s p q => by
  unfold tupleF at e
  split at e
  · obtain ⟨v, rfl, a, ws, rfl, hx, rr⟩ := pair1 p
    cases e
    exact ⟨_, call_tuple_of, a, ws, rfl, .inl ⟨.inl (.inl hx), q.t.tup s rr⟩⟩
  · obtain ⟨v, rfl, a, ws, rfl, hx, rr⟩ := pair1 p
    cases e
    refine ⟨_, call_tuple_of, a, ws, rfl, .inr ⟨by rw [hK]; exact s.sqT hx, q.t.same s ?_⟩⟩
    simp only [Rep]
    exact ⟨a, ws, rfl, hx, rr⟩
  · cases e
theorem bu_int : CallQ X c (.type "int") intF := fun G H ts t vs Q e s p q => by
  unfold intF at e
  split at e
  · obtain ⟨v, rfl, rfl⟩ := pair1 p
    cases e
    exact ⟨_, call_int1, .inl ⟨_, rfl, q.t.flat s rep_int⟩⟩
  · obtain ⟨v, rfl, rfl⟩ := pair1 p
    cases e
    exact ⟨_, call_int1, .inr ⟨_, rfl, q.t.flat s rep_int⟩⟩
  · obtain ⟨v, rfl, rfl, g⟩ := pair1 p
    rename_i a
    by_cases l : a.length ≤ 640
    · rw [if_pos l] at e
      cases z : PySem.intText? a with
      | none => rw [z] at e; cases e
      | some n =>
        rw [z] at e
        cases e
        exact ⟨_, call_int_str, a, n, rfl, z, l, q.t.flat s rep_int⟩
    · rw [if_neg l] at e; cases e
  · cases e
theorem bu_bool : CallQ X c (.type "bool") boolF := fun G H ts t vs Q e s p q => by
  unfold boolF at e
  split at e
  · obtain ⟨v, rfl, rfl⟩ := pair1 p
    cases e
    exact ⟨_, call_bool1, .inl ⟨_, rfl, q.t.flat s rep_bl⟩⟩
  · obtain ⟨v, rfl, rfl⟩ := pair1 p
    cases e
    exact ⟨_, call_bool1, .inr ⟨_, rfl, q.t.flat s rep_bl⟩⟩
  · cases e
theorem bu_abs : CallQ X c (.builtin "abs") absF := fun G H ts t vs Q e s p q => by
  unfold absF at e
  split at e
  · obtain ⟨v, rfl, rfl⟩ := pair1 p
    cases e
    exact ⟨_, call_abs, _, rfl, q.t.flat s rep_int⟩
  · cases e
theorem bu_max (hc : X.calm = true) : CallQ X c (.builtin "max") maxF := fun G H ts t vs Q e s p q => by
  unfold maxF at e
  split at e
  · obtain ⟨v, u, rfl, rfl, rfl⟩ := pair2 p
    cases e
    exact ⟨_, call_max2 hc, _, _, rfl, q.t.flat s rep_int⟩
  · cases e
theorem bu_min (hc : X.calm = true) : CallQ X c (.builtin "min") minF := fun G H ts t vs Q e s p q => by
  unfold minF at e
  split at e
  · obtain ⟨v, u, rfl, rfl, rfl⟩ := pair2 p
    cases e
    exact ⟨_, call_min2 hc, _, _, rfl, q.t.flat s rep_int⟩
  · cases e
theorem map_some {α β : Type} {f : α → β} {o : Option α} {b : β} (h : o.map f = some b) : ∃ a, o = some a ∧ b = f a := by
  cases o with
  | none => cases h
  | some a => exact ⟨a, rfl, by cases h; rfl⟩
theorem bu_all (hc : X.calm = true) : CallQ X c (.builtin "all") allF := fun G H ts t vs Q e s p q => by
  unfold allF at e
  split at e
  · obtain ⟨v, rfl, a, ws, rfl, hx, rr⟩ := pair1 p
    obtain ⟨bs, hb, rfl⟩ := map_some e
    exact ⟨_, cr_all hc, a, bs, rfl, by rw [← bools_rep rr hb]; exact .inl (.inl hx), q.t.flat s rep_bl⟩
  · cases e
theorem bu_any (hc : X.calm = true) : CallQ X c (.builtin "any") anyF := fun G H ts t vs Q e s p q => by
  unfold anyF at e
  split at e
  · obtain ⟨v, rfl, a, ws, rfl, hx, rr⟩ := pair1 p
    obtain ⟨bs, hb, rfl⟩ := map_some e
    exact ⟨_, cr_any hc, a, bs, rfl, by rw [← bools_rep rr hb]; exact .inl (.inl hx), q.t.flat s rep_bl⟩
  · cases e
theorem bu_sum (hc : X.calm = true) : CallQ X c (.builtin "sum") sumF := fun G H ts t vs Q e s p q => by
  unfold sumF at e
  split at e
  · obtain ⟨v, rfl, a, ws, rfl, hx, rr⟩ := pair1 p
    obtain ⟨bs, hb, rfl⟩ := map_some e
    exact ⟨_, cr_sum hc, a, bs, rfl, by rw [← ints_rep rr hb]; exact .inl (.inl hx), q.t.flat s rep_int⟩
  · cases e
theorem num_strG {n : Nat} (h : n < 10 ^ 100) : StrG (Str.ofString (toString (n : Int))) := by
  rw [strG_iff, TL.tl_num]
  refine ⟨Nat.le_trans (TL.numL_len (k := 100) (by omega) h) (lim_line (by decide)), fun m hm => ?_⟩
  have d := TL.numL_digits n m hm
  have d2 : 48 ≤ m ∧ m ≤ 57 := d
  omega
theorem bu_str : CallQ X c (.type "str") strF := fun G H ts t vs Q e s p q => by
  unfold strF at e
  split at e
  · obtain ⟨v, rfl, rfl⟩ := pair1 p
    obtain ⟨hl, rfl⟩ := ite_some e
    rename_i i
    obtain ⟨n, rfl⟩ := Int.eq_ofNat_of_zero_le hl.1
    have hn : n < 10 ^ 100 := by omega
    refine ⟨_, call_str_int, _, rfl, ?_, q.t.flat s (rep_str (num_strG hn))⟩
    have h2 : ((n : Int)).natAbs < 2 ^ 1000 := Nat.lt_of_lt_of_le (by simpa using hn) (by decide +kernel)
    exact Nat.lt_of_lt_of_le (PySem.Flt.log2_lt_of (by omega) h2) (by omega)
  · obtain ⟨v, rfl, rfl, g⟩ := pair1 p
    cases e
    exact ⟨_, SkE.call_str_str, _, rfl, q.t.flat s (rep_str g)⟩
  · cases e
end

/-! ### methods of built-in values -/
@[simp] def isTy (T : String) : PV → Bool
  | .str _ => T == "str"
  | .lst _ => T == "list"
  | .dct _ _ => T == "dict"
  | _ => false
def splitM : PV → List PV → Option Arg
  | .str a, [.str b] => if (b.length == 0) = false ∧ a.length ≤ LIM then some (.ow (.lst ((Txt.split a b).map .str))) else none
  | _, _ => none
def joinM : PV → List PV → Option Arg
  | .str a, [.lst ys] => (strsP ys).bind fun zs => if (zs.map (·.length)).sum + zs.length * a.length ≤ LIM then some (.t (.str (Txt.join a zs))) else none
  | .str a, [.tup ys] => (strsP ys).bind fun zs => if (zs.map (·.length)).sum + zs.length * a.length ≤ LIM then some (.t (.str (Txt.join a zs))) else none
  | _, _ => none
def startswithM : PV → List PV → Option Arg
  | .str a, [.str b] => some (.t (.bl (Txt.startswith a b)))
  | _, _ => none
def endswithM : PV → List PV → Option Arg
  | .str a, [.str b] => some (.t (.bl (Txt.endswith a b)))
  | _, _ => none
@[simp] def rMet (T : String) (f : PV → List PV → Option Arg) (ea : EvE) (el : EvA) : EvR := fun env => (ea env).bind fun x e1 => match look e1 x with
  | some t0 => if isTy T t0 then (el e1).bind fun xs e => (match look e x, looks e xs with
    | some t, some ts => ofO (f t ts) e
    | _, _ => .bad) else .bad
  | none => .bad
section
variable {X : Cx} {c : TC} {r : Ref} {W : WX} {o a : Expr} {as : List Expr} {ea : EvE} {el : EvA} {apos cpos : Pos}
theorem isTy_rep {G H : Hp} {t : PV} {v : V} {T : String} (w : WRep c G H t v) (h : isTy T t = true) : tyV c.K T v H := by
  cases t with
  | str x =>
    obtain ⟨rfl, _⟩ := w
    exact beq_iff_eq.mp h
  | lst xs =>
    obtain ⟨p, vs, rfl, hx, _⟩ := w
    exact .inl ⟨beq_iff_eq.mp h, vs, .inl (.inl hx)⟩
  | dct k kvs =>
    obtain ⟨p, rfl, hx⟩ := w
    refine .inr (.inr (.inl ⟨beq_iff_eq.mp h, ?_⟩))
    rcases hx with ⟨_, ks, hx, _⟩ | ⟨_, ks, hx, _⟩
    · exact .inl ⟨ks, hx⟩
    · exact .inr ⟨ks, hx⟩
  | _ => cases h
theorem mtAny {id : String} : MtR X id (fun v vs H Q => ∃ r, MtR X id r ∧ r v vs H Q) := fun pins s σ H x xs v us Q I r1 rr ⟨r, h, q⟩ => h pins s σ H x xs v us Q I r1 rr q
theorem rmet_imp {T id : String} {f : PV → List PV → Option Arg} (hK : X.K = c.K) (ho : MtQ X c id f) {σ : L2.St} {H : Hp} {Q : VK} (h : TRof c r W (rMet T f ea el) σ H Q) : tBM X.K T (fun v vs H Q => ∃ r, MtR X id r ∧ r v vs H Q) (TEof c r W ea) (TAof c r W el) σ H Q := by
  obtain ⟨ads, G, env, R, h⟩ := h
  refine ⟨ads, G, env, R, Sat_mono (Sat_bind.mp h) (fun x e1 h1 ads1 G1 H1 v1 R1 s1 p1 => ?_) fun _ _ z => z⟩
  cases q1 : look e1 x with
  | none => simp only [q1] at h1; exact h1.elim
  | some t0 =>
    simp only [q1] at h1
    by_cases ty : isTy T t0 = true
    rotate_left
    · rw [if_neg ty] at h1; exact h1.elim
    rw [if_pos ty] at h1
    refine ⟨by rw [hK]; exact isTy_rep (look_rep R1 p1 q1) ty, ads1, G1, e1, R1, Sat_mono (Sat_bind.mp h1) (fun xs e2 h2 ads2 G2 H2 vs R2 s2 p2 => ?_) fun x e z => z.weak s1.sub⟩
    cases q2 : look e2 x with
    | none => simp only [q2] at h2; exact h2.elim
    | some t1 =>
      simp only [q2] at h2
      cases q3 : looks e2 xs with
      | none => simp only [q3] at h2; exact h2.elim
      | some ts =>
        simp only [q3] at h2
        obtain ⟨t, ht, h3⟩ := Sat_ofO.mp h2
        exact ho G2 H2 t1 ts t v1 vs Q ht R2.sub (look_rep R2 (p1.mono s2.sub) q2) (looks_rep R2 p2 q3) (QOut.res R2 (s1.trans s2) h3)
theorem tr_met {T id : String} {name : Str} {f : PV → List PV → Option Arg} (hK : X.K = c.K) (pa : PlainAttrs T) (slot : Slot T name id) (hty : typeOf (.builtin id) = pure (.type "method_descriptor")) (ho : MtQ X c id f) (he : PE X o (TEof c r W ea)) (ha : PA X (a :: as) (TAof c r W el))
    (hbase : attributeBase o name X.env (eval o X.env) = eval o X.env := by rfl)
    (hfew : ((backTo cpos (starEach (a :: as) X.env)).all (fun x => !x.1) && (backToKw cpos (keywordEach [] X.env)).all (fun x => x.1.isSome) && decide ((a :: as).length + ([] : List Keyword).length + (if ([] : List Keyword).isEmpty then 0 else 1) < 30)) = true := by rfl)
    (hline : (apos.endLine == cpos.line) = true := by rfl) (hs : starEach (a :: as) X.env = (false, eval a X.env) :: starEach as X.env := by rfl) (hplain : (backTo cpos (starEach as X.env)).any (·.1) = false := by rfl) :
    PE X (.Call (.Attribute o name apos) (a :: as) [] cpos) (TRof c r W (rMet T f ea el)) :=
  PE.imp (pe_bm pa slot hty mtAny he ha hbase hfew hline hs hplain) fun _ _ _ h => rmet_imp hK ho h
theorem strs_map {ys : List Str} {G : Hp} (h : ∀ y ∈ ys, StrG y) : RepL c G (ys.map PV.str) (ys.map V.str) := by
  induction ys with
  | nil => exact RepL.nil
  | cons y ys ih => exact RepL.cons (rep_str (h y List.mem_cons_self) G) (ih fun z hz => h z (List.mem_cons_of_mem _ hz))
theorem mt_splitM : MtQ X c "str.split" splitM := fun G H t0 ts t v0 vs Q e s w p q => by
  unfold splitM at e
  split at e
  · obtain ⟨rfl, g⟩ := w
    obtain ⟨v, rfl, rfl, g2⟩ := pair1 p
    obtain ⟨hl, rfl⟩ := ite_some e
    exact ⟨_, mt_split, _, _, rfl, rfl, hl.1, Nat.le_trans (Nat.add_le_add_right hl.2 2) (by decide), q.list (strs_map fun y hy => split_strG g hy)⟩
  · cases e
theorem mt_joinM (hK : X.K = c.K) : MtQ X c "str.join" joinM := fun G H t0 ts t v0 vs Q e s w p q => by
  unfold joinM at e
  split at e
  · obtain ⟨rfl, g⟩ := w
    obtain ⟨v, rfl, a, ws, rfl, hx, rr⟩ := pair1 p
    rename_i ys
    cases z : strsP ys with
    | none => rw [z] at e; cases e
    | some zs =>
      rw [z] at e
      obtain ⟨hl, rfl⟩ := ite_some (show (if _ then _ else _) = _ from e)
      obtain ⟨rfl, hg⟩ := strs_rep rr z
      exact ⟨_, mt_join, _, a, zs, rfl, rfl, .inl (.inl (.inl hx)), Nat.le_trans hl (by decide), q.t.flat s (rep_str (join_strG g hg hl))⟩
  · obtain ⟨rfl, g⟩ := w
    obtain ⟨v, rfl, a, ws, rfl, hx, rr⟩ := pair1 p
    rename_i ys
    cases z : strsP ys with
    | none => rw [z] at e; cases e
    | some zs =>
      rw [z] at e
      obtain ⟨hl, rfl⟩ := ite_some (show (if _ then _ else _) = _ from e)
      obtain ⟨rfl, hg⟩ := strs_rep rr z
      exact ⟨_, mt_join, _, a, zs, rfl, rfl, .inr (by rw [hK]; exact s.sqT hx), Nat.le_trans hl (by decide), q.t.flat s (rep_str (join_strG g hg hl))⟩
  · cases e
theorem mt_startswithM : MtQ X c "str.startswith" startswithM := fun G H t0 ts t v0 vs Q e s w p q => by
  unfold startswithM at e
  split at e
  · obtain ⟨rfl, g⟩ := w
    obtain ⟨v, rfl, rfl, g2⟩ := pair1 p
    cases e
    exact ⟨_, mt_startswith, _, _, rfl, rfl, q.t.flat s rep_bl⟩
  · cases e
end

/-! ### subscripts, slices -/
def ixP : PV → PV → Option PV
  | .lst xs, .int i => atI xs i
  | .tup xs, .int i => atI xs i
  | .str z, .int i => (atI z.cps.toList i).map fun n => .str ⟨#[n]⟩
  | _, _ => none
def cutP (xs : List PV) (lo hi : Option Int) : List PV := (xs.drop (HT.sIx xs.length 0 lo)).take (HT.sIx xs.length xs.length hi - HT.sIx xs.length 0 lo)
def slA : PV → Option Int → Option Int → Option Arg
  | .lst xs, lo, hi => some (.ow (.lst (cutP xs lo hi)))
  | .tup xs, lo, hi => some (.t (.tup (cutP xs lo hi)))
  | .str z, lo, hi => some (.t (.str (cutS z lo hi)))
  | .scr ns, lo, hi => some (.ow (.lst (cutP (ns.map PV.int) lo hi)))
  | _, _, _ => none
abbrev EvO := En → RE (Option Int)
def TOof (c : TC) (r : Ref) (W : WX) (ev : EvO) : TO := fun σ H Q => ∃ ads G env, RS c r ads G H σ env ∧
  (ev env).Sat (fun x env' => ∀ ads' G' H', RS c r ads' G' H' σ env' → Nxt ads G H ads' G' H' → Q x H') (XC c r W G σ)
@[simp] def oNo : EvO := fun env => .ok none env
@[simp] def oSo (ea : EvE) : EvO := fun env => (ea env).bind fun x e => match look e x with
  | some (.int i) => .ok (some i) e
  | _ => .bad
@[simp] def rSl (ea : EvE) (lo hi : EvO) : EvR := fun env => (ea env).bind fun x e1 => (lo e1).bind fun l e2 => (hi e2).bind fun h e3 => match look e3 x with
  | some t => ofO (slA t l h) e3
  | none => .bad
section
variable {X : Cx} {c : TC} {r : Ref} {W : WX} {a b : Expr} {ea eb : EvE} {lo hi : Option Expr} {ol oh : EvO} {pos p2 : Pos}
theorem PO.imp {e : Option Expr} {t t' : TO} (h : PO X e t) (i : ∀ σ H Q, t' σ H Q → t σ H Q) : PO X e t' := ⟨fun pins s σ H Q I q => h.run pins s σ H Q I (i σ H Q q)⟩
theorem to_no : PO X none (TOof c r W oNo) := PO.imp po_none fun σ H Q ⟨ads, G, env, R, h⟩ => h ads G H R (Nxt.refl _ _ _)
theorem to_so {e : Expr} (he : PE X e (TEof c r W ea)) : PO X (some e) (TOof c r W (oSo ea)) := PO.imp (po_some he) fun σ H Q ⟨ads, G, env, R, h⟩ => by
  refine ⟨ads, G, env, R, Sat_mono (Sat_bind.mp h) (fun x e1 h1 ads1 G1 H1 v1 R1 s1 p1 => ?_) fun _ _ z => z⟩
  cases q : look e1 x with
  | none => simp only [q] at h1; exact h1.elim
  | some t =>
    have w := look_rep R1 p1 q
    cases t with
    | int i =>
      simp only [q] at h1
      cases w
      exact ⟨i, rfl, h1 ads1 G1 H1 R1 s1⟩
    | _ => simp only [q] at h1; exact h1.elim
theorem RepL.atI {G : Hp} {ts : List PV} {vs : List V} {i : Int} {x : PV} (rr : RepL c G ts vs) (h : L2.atI ts i = some x) : ∃ v, L2.atI vs i = some v ∧ Rep c G x v := by
  unfold L2.atI at h ⊢
  rw [rr.length]
  cases q : ixN ts.length i with
  | none => rw [q] at h; cases h
  | some j => rw [q] at h; exact rr.get h
theorem atI_mem {α : Type} {l : List α} {i : Int} {x : α} (h : L2.atI l i = some x) : x ∈ l := by
  unfold L2.atI at h
  cases q : ixN l.length i with
  | none => rw [q] at h; cases h
  | some j => rw [q] at h; exact List.mem_of_getElem? h
def rAnyIx (X : Cx) : R2 := fun x y H Q => ∃ r, IxR X r ∧ r x y H Q
theorem ixAny : IxR X (rAnyIx X) := fun value slice pins s σ H x y v u Q I r1 r2 ⟨r, h, q⟩ hs => h value slice pins s σ H x y v u Q I r1 r2 q hs
theorem ix_ok (hK : X.K = c.K) {G H : Hp} {t1 t2 t : PV} {v1 v2 : V} {Q : VK} (e : ixP t1 t2 = some t) (s : Sub G H) (w1 : WRep c G H t1 v1) (w2 : WRep c G H t2 v2) (q : VOut c G H t Q) : rAnyIx X v1 v2 H Q := by
  unfold ixP at e
  split at e
  · obtain ⟨p, vs, rfl, hx, rr⟩ := w1
    cases w2
    obtain ⟨v, hv, rv⟩ := rr.atI e
    exact ⟨_, ix_list, p, vs, _, v, rfl, rfl, .inl (.inl hx), hv, q.same s rv⟩
  · obtain ⟨p, vs, rfl, hx, rr⟩ := w1
    cases w2
    obtain ⟨v, hv, rv⟩ := rr.atI e
    exact ⟨_, ix_tup, p, vs, _, v, rfl, rfl, by rw [hK]; exact s.sqT hx, hv, q.same s rv⟩
  · obtain ⟨rfl, g⟩ := w1
    cases w2
    obtain ⟨n, hn, rfl⟩ := map_some e
    refine ⟨_, ix_str, _, _, n, rfl, rfl, g.1, hn, q.flat s (rep_str ?_)⟩
    refine strG_sub (l := [n]) g ?_
    exact List.singleton_sublist.mpr (atI_mem hn)
  · cases e
theorem pt_ix (hK : X.K = c.K) (ha : PE X a (TEof c r W ea)) (hb : PE X b (TEof c r W eb)) (hs : PlainIx b) : PE X (.Subscript a b pos) (TEof c r W (eBin ixP ea eb)) := PE.imp (pe_ix ixAny ha hb hs) fun σ H Q ⟨ads, G, env, R, h⟩ => by
  refine ⟨ads, G, env, R, Sat_mono (Sat_bind.mp h) (fun x e1 h1 ads1 G1 H1 v1 R1 s1 p1 => ?_) fun _ _ z => z⟩
  refine ⟨ads1, G1, e1, R1, Sat_mono (Sat_bind.mp h1) (fun y e2 h2 ads2 G2 H2 v2 R2 s2 p2 => ?_) fun x e z => z.weak s1.sub⟩
  cases q1 : look e2 x with
  | none => rw [q1] at h2; exact h2.elim
  | some t1 =>
    rw [q1] at h2
    cases q2 : look e2 y with
    | none => rw [q2] at h2; exact h2.elim
    | some t2 =>
      rw [q2] at h2
      obtain ⟨t, ht, h2⟩ := Sat_ofO.mp (Sat_bind.mp h2)
      exact ix_ok hK ht R2.sub (look_rep R2 (p1.mono s2.sub) q1) (look_rep R2 p2 q2) fun v H' G' st p => h2 ads2 G' H' v (R2.next st) ((s1.trans s2).trans (Nxt.of st)) p
theorem ints_map {G : Hp} : ∀ {ns : List Int}, RepL c G (ns.map PV.int) (ns.map V.int)
  | [] => RepL.nil
  | n :: ns => RepL.cons (rep_int G) ints_map
theorem cut_rep {G : Hp} {ts : List PV} {vs : List V} (rr : RepL c G ts vs) (lo hi : Option Int) : RepL c G (cutP ts lo hi) (cutV vs lo hi) := by
  unfold cutP cutV
  rw [rr.length]
  exact (rr.drop _).take _
def rAnySl (X : Cx) : V → Option Int → Option Int → Hp → VK → Prop := fun x l h H Q => ∃ r, SlR X r ∧ r x l h H Q
theorem slAny : SlR X (rAnySl X) := fun pins s σ H x v vl vu lo hi sl Q I rx hs pl pu ⟨r, h, q⟩ => h pins s σ H x v vl vu lo hi sl Q I rx hs pl pu q
theorem sl_ok (hK : X.K = c.K) {G H : Hp} {t1 : PV} {t : Arg} {l h : Option Int} {v1 : V} {Q : VK} (e : slA t1 l h = some t) (s : Sub G H) (w1 : WRep c G H t1 v1) (q : QOut c G H t Q) : rAnySl X v1 l h H Q := by
  unfold slA at e
  split at e
  · cases e
    obtain ⟨p, vs, rfl, hx, rr⟩ := w1
    exact ⟨_, sl_list, p, vs, rfl, .inl (.inl hx), q.list (cut_rep rr _ _)⟩
  · cases e
    obtain ⟨p, vs, rfl, hx, rr⟩ := w1
    refine ⟨_, sl_tupA, p, vs, rfl, by rw [hK]; exact s.sqT hx, fun z => q.t.same s ?_, fun _ => q.t.tup s (cut_rep rr _ _)⟩
    have e2 := cut_rep rr l h
    have e3 : cutV vs l h = vs := by
      unfold cutV
      rw [z.1, z.2, List.drop_zero, Nat.sub_zero, List.take_length]
    rw [e3] at e2
    simp only [Rep]
    exact ⟨p, vs, rfl, hx, e2⟩
  · cases e
    obtain ⟨rfl, g⟩ := w1
    refine ⟨_, sl_str, _, rfl, g.1, q.t.flat s (rep_str ?_)⟩
    unfold cutS
    exact strG_sub g ((List.take_sublist _ _).trans (List.drop_sublist _ _))
  · cases e
    obtain ⟨p, rfl, hx⟩ := w1
    exact ⟨_, sl_list, p, _, rfl, by rw [hK]; exact s.sqL hx, q.list (cut_rep ints_map _ _)⟩
  · cases e
theorem tr_sl (hK : X.K = c.K) (ha : PE X a (TEof c r W ea)) (hl : PO X lo (TOof c r W ol)) (hh : PO X hi (TOof c r W oh)) : PE X (.Subscript a (.Slice lo hi none p2) pos) (TRof c r W (rSl ea ol oh)) := PE.imp (pe_slice slAny ha hl hh) fun σ H Q ⟨ads, G, env, R, h⟩ => by
  refine ⟨ads, G, env, R, Sat_mono (Sat_bind.mp h) (fun x e1 h1 ads1 G1 H1 v1 R1 s1 p1 => ?_) fun _ _ z => z⟩
  refine ⟨ads1, G1, e1, R1, Sat_mono (Sat_bind.mp h1) (fun l e2 h2 ads2 G2 H2 R2 s2 => ?_) fun x e z => z.weak s1.sub⟩
  refine ⟨ads2, G2, e2, R2, Sat_mono (Sat_bind.mp h2) (fun u e3 h3 ads3 G3 H3 R3 s3 => ?_) fun x e z => z.weak (s1.sub.trans s2.sub)⟩
  cases q1 : look e3 x with
  | none => rw [q1] at h3; exact h3.elim
  | some t1 =>
    rw [q1] at h3
    obtain ⟨t, ht, h4⟩ := Sat_ofO.mp h3
    exact sl_ok hK ht R3.sub (look_rep R3 (p1.mono (s2.sub.trans s3.sub)) q1) (QOut.res R3 ((s1.trans s2).trans s3) h4)
end
end TreeL
end
section
/-! TL9: fields, methods that change an object of ours, comprehensions, iterators, chains, constants. -/
namespace TreeL
open PySem PySem.Spec PyProof.Rows L2

/-! ### constants -/
/-- a tree that stands in the written part -/
def KRep (c : TC) (t : PV) (v : V) : Prop := ∀ G, Rep c G t v
theorem pt_glob {X : Cx} {c : TC} {r : Ref} {W : WX} {x : Str} {t : PV} {v : V} {u : Value} {p : Pos} (hg : Gl X x) (hm : X.mg x = some u) (hr : RelV v u) (hk : KRep c t v) (h : PE X (.Name x p) (tC v)) : PE X (.Name x p) (TEof c r W (eCon t)) := pt_con h hk

/-! ### fields -/
@[simp] def eFld (ks : List Nat) (f : Str) (ea : EvE) : EvE := fun env => (ea env).bind fun x e => match look e x with
  | some (.ins k fs) => if ks.contains k then (ofO (fs.lookup f) e).bind fun t e => .ok (.tr t) e else .bad
  | _ => .bad
def putFP (f : Str) (t : PV) : List (Str × PV) → List (Str × PV)
  | [] => [(f, t)]
  | (g, x) :: r => if g = f then (g, t) :: r else (g, x) :: putFP f t r
def sFldT (i k : Nat) (f : Str) (ea : EvE) : EvS := fun env => (ea env).so fun x e => match x with
  | .tr t => (match e[i]? with
    | some (some (.ow (.ins k' fs))) => if k' = k ∧ fs.length < 1000 then .nx (e.set i (some (.ow (.ins k (putFP f t fs))))) else .bad
    | _ => .bad)
  | .sl _ => .bad
section
variable {X : Cx} {c : TC} {r : Ref} {W : WX} {o e : Expr} {ea : EvE} {f : Str} {ks : List Nat} {i k : Nat} {pos pos' p : Pos}
theorem RepF.put {G : Hp} {f : Str} {t : PV} {v : V} (h : Rep c G t v) : ∀ {fs : List (Str × PV)} {gs : List (Str × V)}, RepF c G fs gs → RepF c G (putFP f t fs) (putF f v gs)
  | [], _, e => by cases e; exact ⟨v, [], rfl, h, rfl⟩
  | (g, x) :: fs, _, ⟨u, r, e, a, b⟩ => by
    subst e
    unfold putFP putF
    by_cases q : g = f
    · rw [if_pos q, if_pos q]; exact ⟨v, r, rfl, h, b⟩
    · rw [if_neg q, if_neg q]; exact ⟨u, _, rfl, a, RepF.put h b⟩
theorem pt_fld (hf : ∀ k ∈ ks, Cls X.K (c.C k) ∧ NoAttr X.K (c.C k) f) (he : PE X e (TEof c r W ea)) (hb : attributeBase e f X.env (eval e X.env) = eval e X.env := by rfl) : PE X (.Attribute e f pos) (TEof c r W (eFld ks f ea)) := PE.imp (pe_fld he hb) fun σ H Q ⟨ads, G, env, R, h⟩ => by
  refine ⟨ads, G, env, R, Sat_mono (Sat_bind.mp h) (fun x e1 h1 ads1 G1 H1 v1 R1 s1 p1 => ?_) fun _ _ z => z⟩
  cases q : look e1 x with
  | none => simp only [q] at h1; exact h1.elim
  | some t =>
    have w := look_rep R1 p1 q
    cases t with
    | ins k fs =>
      simp only [q] at h1
      by_cases m : ks.contains k = true
      · rw [if_pos m] at h1
        obtain ⟨t, ht, h2⟩ := Sat_ofO.mp (Sat_bind.mp h1)
        obtain ⟨a, dx, gs, rfl, hH, rf⟩ := w
        obtain ⟨u, hu, ru⟩ := rf.lookup ht
        obtain ⟨c1, c2⟩ := hf k (List.contains_iff_mem.mp m)
        exact ⟨a, c.C k, dx, gs, u, rfl, hH, c1, c2, hu, h2 ads1 G1 H1 u R1 s1 ru⟩
      · rw [if_neg m] at h1; exact h1.elim
    | _ => simp only [q] at h1; exact h1.elim
/-- o.f = e, o the slot i -/
theorem ts_fld (hc : Cls X.K (c.C k)) (hn : NoAttr X.K (c.C k) f) (ho : PE X o (tVar i)) (he : PE X e (TEof c r W ea)) (hs : swapsWith e (some (.Attribute o f pos')) pos.line X.env = pure false := by rfl) : PS X (.Assign [.Attribute o f pos'] e pos) (TSof c r W (sFldT i k f ea)) :=
  PS.imp (ps_fld ho he hs) fun D σ H ⟨ads, G, env, R, h⟩ => by
    refine ⟨ads, G, env, R, Sat_mono (RE.so_Sat.mp h) (fun x e1 h1 ads1 G1 H1 v1 R1 s1 p1 => ?_) fun x e z => XC.of z⟩
    cases x with
    | sl i => exact h1.elim
    | tr t =>
      have sl := R1.slot i
      cases q : e1[i]? with
      | none => simp only [q] at h1; exact h1.elim
      | some o =>
        cases o with
        | none => simp only [q] at h1; exact h1.elim
        | some a =>
          cases a with
          | t _ => simp only [q] at h1; exact h1.elim
          | ow o =>
            cases o with
            | ins k' fs =>
              simp only [q] at h1
              by_cases m : k' = k ∧ fs.length < 1000
              · rw [if_pos m] at h1
                obtain ⟨rfl, hl⟩ := m
                rw [q] at sl
                cases w : σ[i]?.join with
                | none => rw [w] at sl; exact (show False from sl).elim
                | some v =>
                  rw [w] at sl
                  obtain ⟨p, rfl, ad, dx, gs, hH, rf⟩ := sl
                  have hv : σ[i]? = some (some (.ref p)) := Option.join_eq_some_iff.mp w
                  refine ⟨.ref p, hv, p, c.C k', dx, gs, rfl, hH, hc, hn, by rw [rf.length]; exact hl, ?_⟩
                  exact h1 ads1 G1 _ σ (R1.write hv (by rw [ad]; exact List.mem_singleton.mpr rfl) hH ⟨ad, dx, _, upd_same, rf.put p1⟩) s1.sub
              · rw [if_neg m] at h1; exact h1.elim
            | _ => simp only [q] at h1; exact h1.elim
end

/-! ### methods that change the object of a slot -/
def isTyO (T : String) : OS → Bool
  | .lst _ => T == "list"
  | .dct _ _ => T == "dict"
  | _ => false
def MutP (X : Cx) (c : TC) (id : String) (f : OS → List PV → Option (PV × OS)) : Prop :=
  ∀ G H p ad o ts vs t o' Q, f o ts = some (t, o') → Sub G H → OwRep c G H p ad o → RepL c G ts vs → (∀ a ho ho' v, a ∈ ad → H a = some ho → OwRep c G (upd H a ho') p ad o' → Rep c G t v → Q v (upd H a ho')) → ∃ r, MtR X id r ∧ r (.ref p) vs H Q
def eMut (T : String) (f : OS → List PV → Option (PV × OS)) (i : Nat) (el : EvA) : EvE := fun env => match env[i]? with
  | some (some (.ow o)) => if isTyO T o then (el env).bind fun xs e => (match e[i]?, trees xs with
    | some (some (.ow o)), some ts => (ofO (f o ts) e).bind fun q e => .ok (.tr q.1) (e.set i (some (.ow q.2)))
    | _, _ => .bad) else .bad
  | _ => .bad
section
variable {X : Cx} {c : TC} {r : Ref} {W : WX} {o a : Expr} {as : List Expr} {el : EvA} {i : Nat} {apos cpos : Pos}
theorem isTyO_rep {G H : Hp} {p : Addr} {ad : List Addr} {o : OS} {T : String} (w : OwRep c G H p ad o) (h : isTyO T o = true) : tyV c.K T (.ref p) H := by
  cases o with
  | lst xs =>
    obtain ⟨_, vs, hx, _⟩ := w
    exact .inl ⟨beq_iff_eq.mp h, vs, .inl (.inl hx)⟩
  | dct k kvs =>
    obtain ⟨_, hx⟩ := w
    refine .inr (.inr (.inl ⟨beq_iff_eq.mp h, ?_⟩))
    rcases hx with ⟨_, ks, hx, _⟩ | ⟨_, ks, hx, _⟩
    · exact .inl ⟨ks, hx⟩
    · exact .inr ⟨ks, hx⟩
  | _ => cases h
theorem Nxt.wr {ads : Nat → List Addr} {G H : Hp} {a : Addr} {ho ho' : HO} {i : Nat} (h : a ∈ ads i) (hH : H a = some ho) : Nxt ads G H ads G (upd H a ho') where
  sub := Sub.refl _
  hold := fun b o e n => by
    have ne : b ≠ a := fun z => n i (by rw [z]; exact h)
    exact ⟨by rw [upd_ne ne]; exact e, n, id⟩
  there := fun b e => by
    by_cases z : b = a
    · rw [z, upd_same] at e; cases e
    · rw [upd_ne z] at e; exact e
theorem slot_own {ads : Nat → List Addr} {G H : Hp} {σ : L2.St} {env : En} {o : OS} (R : RS c r ads G H σ env) (q : env[i]? = some (some (.ow o))) : ∃ p, σ[i]? = some (some (.ref p)) ∧ OwRep c G H p (ads i) o := by
  have sl := R.slot i
  rw [q] at sl
  cases w : σ[i]?.join with
  | none => rw [w] at sl; exact (show False from sl).elim
  | some v =>
    rw [w] at sl
    obtain ⟨p, rfl, ow⟩ := sl
    exact ⟨p, Option.join_eq_some_iff.mp w, ow⟩
theorem mut_core {id : String} {f : OS → List PV → Option (PV × OS)} (ho : MutP X c id f) {ads0 ads : Nat → List Addr} {G0 H0 G H : Hp} {σ : L2.St} {env : En} {p : Addr} {xs : List Vl} {vs : List V} {Q : VK} (R : RS c r ads G H σ env) (s0 : Nxt ads0 G0 H0 ads G H) (hp : σ[i]? = some (some (.ref p))) (pv : VReps c σ G xs vs)
    (h : (match env[i]?, trees xs with
    | some (some (.ow o)), some ts => (ofO (f o ts) env).bind fun q e => RE.ok (Vl.tr q.1) (e.set i (some (.ow q.2)))
    | _, _ => .bad).Sat (fun x env' => ∀ ads' G' H' v, RS c r ads' G' H' σ env' → Nxt ads0 G0 H0 ads' G' H' → VRep c σ G' x v → Q v H') (XC c r W G0 σ)) : ∃ r, MtR X id r ∧ r (.ref p) vs H Q := by
  cases q : env[i]? with
  | none => simp only [q] at h; exact h.elim
  | some o =>
    cases o with
    | none => simp only [q] at h; exact h.elim
    | some a =>
      cases a with
      | t _ => simp only [q] at h; exact h.elim
      | ow o =>
        cases q2 : trees xs with
        | none => simp only [q, q2] at h; exact h.elim
        | some ts =>
          simp only [q, q2] at h
          obtain ⟨⟨t, o'⟩, ht, h2⟩ := Sat_ofO.mp (Sat_bind.mp h)
          obtain ⟨p', e1, ow⟩ := slot_own R q
          rw [hp] at e1
          cases e1
          exact ho G H p (ads i) o ts vs t o' Q ht R.sub ow (trees_rep pv q2) fun a hh hh' v ha hH ow' rv => h2 ads G _ v (R.write hp ha hH ow') (s0.trans (Nxt.wr ha hH)) rv
theorem pt_mut {T id : String} {name : Str} {f : OS → List PV → Option (PV × OS)} (hK : X.K = c.K) (pa : PlainAttrs T) (slot : Slot T name id) (hty : typeOf (.builtin id) = pure (.type "method_descriptor")) (ho : MutP X c id f) (he : PE X o (tVar i)) (ha : PA X (a :: as) (TAof c r W el))
    (hbase : attributeBase o name X.env (eval o X.env) = eval o X.env := by rfl)
    (hfew : ((backTo cpos (starEach (a :: as) X.env)).all (fun x => !x.1) && (backToKw cpos (keywordEach [] X.env)).all (fun x => x.1.isSome) && decide ((a :: as).length + ([] : List Keyword).length + (if ([] : List Keyword).isEmpty then 0 else 1) < 30)) = true := by rfl)
    (hline : (apos.endLine == cpos.line) = true := by rfl) (hs : starEach (a :: as) X.env = (false, eval a X.env) :: starEach as X.env := by rfl) (hplain : (backTo cpos (starEach as X.env)).any (·.1) = false := by rfl) :
    PE X (.Call (.Attribute o name apos) (a :: as) [] cpos) (TEof c r W (eMut T f i el)) :=
  PE.imp (pe_bm pa slot hty mtAny he ha hbase hfew hline hs hplain) fun σ H Q ⟨ads, G, env, R, h⟩ => by
    simp only [eMut] at h
    cases q : env[i]? with
    | none => simp only [q] at h; exact h.elim
    | some o =>
      cases o with
      | none => simp only [q] at h; exact h.elim
      | some a =>
        cases a with
        | t _ => simp only [q] at h; exact h.elim
        | ow o =>
          simp only [q] at h
          by_cases ty : isTyO T o = true
          rotate_left
          · rw [if_neg ty] at h; exact h.elim
          rw [if_pos ty] at h
          obtain ⟨p, e1, ow⟩ := slot_own R q
          refine ⟨.ref p, e1, by rw [hK]; exact isTyO_rep ow ty, ads, G, env, R, Sat_mono (Sat_bind.mp h) (fun xs e2 h2 ads2 G2 H2 vs R2 s2 p2 => mut_core ho R2 s2 e1 p2 h2) fun _ _ z => z⟩
theorem pt_mut0 {T id : String} {name : Str} {f : OS → List PV → Option (PV × OS)} (hK : X.K = c.K) (pa : PlainAttrs T) (slot : Slot T name id) (hty : typeOf (.builtin id) = pure (.type "method_descriptor")) (ho : MutP X c id f) (he : PE X o (tVar i))
    (hbase : attributeBase o name X.env (eval o X.env) = eval o X.env := by rfl) (hline : (apos.endLine == cpos.line) = true := by rfl) : PE X (.Call (.Attribute o name apos) [] [] cpos) (TEof c r W (eMut T f i aNil)) :=
  PE.imp (pe_bm0 pa slot hty mtAny he hbase hline) fun σ H Q ⟨ads, G, env, R, h⟩ => by
    simp only [eMut] at h
    cases q : env[i]? with
    | none => simp only [q] at h; exact h.elim
    | some o =>
      cases o with
      | none => simp only [q] at h; exact h.elim
      | some a =>
        cases a with
        | t _ => simp only [q] at h; exact h.elim
        | ow o =>
          simp only [q] at h
          by_cases ty : isTyO T o = true
          rotate_left
          · rw [if_neg ty] at h; exact h.elim
          rw [if_pos ty] at h
          obtain ⟨p, e1, ow⟩ := slot_own R q
          exact ⟨.ref p, e1, by rw [hK]; exact isTyO_rep ow ty, mut_core (xs := []) (vs := []) ho R (Nxt.refl _ _ _) e1 rfl (Sat_bind.mp h)⟩
def appendO : OS → List PV → Option (PV × OS)
  | .lst xs, [t] => if xs.length < LIM then some (.non, .lst (xs ++ [t])) else none
  | _, _ => none
def extendO : OS → List PV → Option (PV × OS)
  | .lst xs, [.lst ts] => if xs.length + ts.length ≤ LIM then some (.non, .lst (xs ++ ts)) else none
  | _, _ => none
def popO : OS → List PV → Option (PV × OS)
  | .lst xs, [] => (xs[xs.length - 1]?).map fun t => (t, .lst xs.dropLast)
  | .lst xs, [.int i] => if -(2 ^ 63) ≤ i ∧ i < 2 ^ 63 then (seqIndex? i xs.length).bind fun k => (xs[k]?).map fun t => (t, .lst (xs.eraseIdx k)) else none
  | _, _ => none
def reverseO : OS → List PV → Option (PV × OS)
  | .lst xs, [] => some (.non, .lst xs.reverse)
  | _, _ => none
theorem RepL.dropLast {G : Hp} {ts : List PV} {vs : List V} (h : RepL c G ts vs) : RepL c G ts.dropLast vs.dropLast := by
  rw [List.dropLast_eq_take, List.dropLast_eq_take, h.length]
  exact h.take _
theorem mu_append : MutP X c "list.append" appendO := fun G H p ad o ts vs t o' Q e s w rr h => by
  unfold appendO at e
  split at e
  · obtain ⟨hl, e⟩ := ite_some e
    cases e
    obtain ⟨ha, ws, hH, rw⟩ := w
    obtain ⟨v, u, rfl, rv, ru⟩ := rr
    cases ru
    exact ⟨_, mt_append, p, ws, v, rfl, rfl, hH, by rw [rw.length]; exact Nat.lt_of_lt_of_le hl (lim_line (Nat.le_refl _)), h p _ _ _ (by rw [ha]; exact List.mem_singleton.mpr rfl) hH ⟨ha, _, upd_same, rw.append (RepL.one rv)⟩ (rep_non G)⟩
  · cases e
theorem mu_extend : MutP X c "list.extend" extendO := fun G H p ad o ts vs t o' Q e s w rr h => by
  unfold extendO at e
  split at e
  · obtain ⟨hl, e⟩ := ite_some e
    cases e
    obtain ⟨ha, ws, hH, rw⟩ := w
    obtain ⟨v, u, rfl, rv, ru⟩ := rr
    cases ru
    simp only [Rep] at rv
    obtain ⟨b, zs, rfl, hb, rz⟩ := rv
    exact ⟨_, mt_extend, p, b, ws, zs, rfl, rfl, hH, s _ _ hb, by rw [rw.length, rz.length]; exact lim_line hl, h p _ _ _ (by rw [ha]; exact List.mem_singleton.mpr rfl) hH ⟨ha, _, upd_same, rw.append rz⟩ (rep_non G)⟩
  · cases e
theorem mu_pop : MutP X c "list.pop" popO := fun G H p ad o ts vs t o' Q e s w rr h => by
  unfold popO at e
  split at e
  · obtain ⟨x, hx, e⟩ := map_some e
    cases e
    obtain ⟨ha, ws, hH, rw⟩ := w
    cases rr
    obtain ⟨u, hu, ru⟩ := rw.get hx
    refine ⟨_, mt_pop, p, ws, u, rfl, rfl, hH, by rw [rw.length]; exact hu, h p _ _ _ (by rw [ha]; exact List.mem_singleton.mpr rfl) hH ⟨ha, _, upd_same, rw.dropLast⟩ ru⟩
  · rename_i xs i
    by_cases hl : -(2 ^ 63) ≤ i ∧ i < 2 ^ 63
    · rw [if_pos hl] at e
      cases q : seqIndex? i xs.length with
      | none => rw [q] at e; cases e
      | some k =>
        rw [q] at e
        obtain ⟨x, hx, e⟩ := map_some e
        cases e
        obtain ⟨ha, ws, hH, rw⟩ := w
        obtain ⟨v, u, rfl, rv, ru⟩ := rr
        cases ru
        simp only [Rep] at rv
        subst rv
        obtain ⟨u, hu, ru⟩ := rw.get hx
        exact ⟨_, mt_popAt, p, ws, i, k, u, rfl, rfl, hH, hl.1, hl.2, by rw [rw.length]; exact q, hu, h p _ _ _ (by rw [ha]; exact List.mem_singleton.mpr rfl) hH ⟨ha, _, upd_same, rw.eraseIdx k⟩ ru⟩
    · rw [if_neg hl] at e; cases e
  · cases e
end

/-! ### iterators -/
def signs (x : Str) : List PV := x.cps.toList.map fun n => PV.str ⟨#[n]⟩
def iStrE (ea : EvE) : EvI := fun env => (ea env).bind fun x e => match look e x with
  | some (.str z) => .ok ⟨signs z, .tr .non⟩ e
  | _ => .bad
/-- a text, a list or a tuple -/
@[simp] def iAny (pn : List Nat) (ea : EvE) : EvI := fun env => (ea env).bind fun x e => match x with
  | .tr (.str z) => .ok ⟨signs z, .tr .non⟩ e
  | .tr (.lst ts) => .ok ⟨ts, .tr .non⟩ e
  | .tr (.tup ts) => .ok ⟨ts, .tr .non⟩ e
  | .sl j => if pn.contains j then (match e[j]? with
    | some (some (.ow (.lst ts))) => .ok ⟨ts, .sl j⟩ e
    | _ => .bad) else .bad
  | _ => .bad
def rangeL (lo : Int) (n : Nat) : List PV := (List.range n).map fun (k : Nat) => PV.int (lo + (k : Int))
@[simp] def iRngA (el : EvA) : EvI := fun env => (el env).bind fun xs e => match looks e xs with
  | some [.int j] => if -1000000000 ≤ j ∧ j ≤ 1000000000 then .ok ⟨rangeL 0 j.toNat, .tr .non⟩ e else .bad
  | _ => .bad
@[simp] def iRngB (el : EvA) : EvI := fun env => (el env).bind fun xs e => match looks e xs with
  | some [.int i, .int j] => if -1000000000 ≤ i ∧ i ≤ 1000000000 ∧ -1000000000 ≤ j ∧ j ≤ 1000000000 then .ok ⟨rangeL i (j - i).toNat, .tr .non⟩ e else .bad
  | _ => .bad
/-- the things with their places -/
def enumL : Nat → List PV → List PV
  | _, [] => []
  | n, t :: ts => .tup [.int n, t] :: enumL (n + 1) ts
def zipP (xs ys : List PV) : List PV := List.zipWith (fun x y => PV.tup [x, y]) xs ys
/-- the arguments: trees that may be walked -/
@[simp] def seqT : PV → Option (List PV)
  | .lst ts => some ts
  | .tup ts => some ts
  | _ => none
def iEnumL (el : EvA) : EvI := fun env => (el env).bind fun xs e => match trees xs with
  | some [.lst ts] => .ok ⟨enumL 0 ts, .tr .non⟩ e
  | _ => .bad
def iZipL (el : EvA) : EvI := fun env => (el env).bind fun xs e => match trees xs with
  | some [.lst ts, .lst us] => .ok ⟨zipP ts us, .tr .non⟩ e
  | some [.tup ts, .tup us] => .ok ⟨zipP ts us, .tr .non⟩ e
  | _ => .bad
section
variable {X : Cx} {c : TC} {r : Ref} {W : WX} {tg e a b : Expr} {ea : EvE} {el : EvA} {pos p : Pos}
theorem itok_str {G : Hp} {x : Vl} {z : Str} (g : StrG z) : ItOk c r G x (signs z) (Its z) := fun i ads G' H σ env R s1 _ => by
  refine ⟨fun t ht => ?_, fun hl => ?_⟩
  · unfold signs at ht
    rw [List.getElem?_map] at ht
    obtain ⟨n, hn, rfl⟩ := map_some ht
    rw [Array.getElem?_toList] at hn
    refine ⟨(Array.getElem?_eq_some_iff.mp hn).1, fun v H' ⟨e, m, hm, ev⟩ => ?_⟩
    subst e; subst ev
    rw [hn] at hm
    cases hm
    exact ⟨G', Step.refl R.sub, rep_str (strG_sub (l := [n]) g (List.singleton_sublist.mpr (by rw [← Array.getElem?_toList] at hn; exact List.mem_of_getElem? hn))) G'⟩
  · have h : z.cps.size ≤ i := by simpa [signs] using hl
    exact h
theorem ti_any {pn : List Nat} (hp : r.pins.map Prod.fst = pn) (hK : X.K = c.K) (ha : PE X e (TEof c r W ea)) : PI X tg e (TIof c r W (iAny pn ea)) := PI.imp (PI.or (pi_str ha) (ti_seq (pn := pn) hp hK ha)) fun σ H R ⟨ads, G, env, R0, h⟩ => by
  have h' := Sat_bind.mp h
  cases q : ea env with
  | bad => rw [q] at h'; exact h'.elim
  | exc x e1 =>
    rw [q] at h'
    exact .inl ⟨ads, G, env, R0, by rw [q]; exact h'⟩
  | ok x e1 =>
    rw [q] at h'
    have other : (∀ z, x ≠ .tr (.str z)) → TIof c r W (iSeq pn ea) σ H R := fun ne => by
      refine ⟨ads, G, env, R0, ?_⟩
      unfold iSeq
      rw [q]
      cases x with
      | sl j => exact h'
      | tr t =>
        cases t with
        | str z => exact absurd rfl (ne z)
        | lst _ => exact h'
        | tup _ => exact h'
        | non => exact h'
        | bl _ => exact h'
        | int _ => exact h'
        | ins _ _ => exact h'
        | dct _ _ => exact h'
        | scr _ => exact h'
        | cls _ => exact h'
    cases x with
    | sl j => exact .inr (other fun _ z => nomatch z)
    | tr t =>
      cases t with
      | str z =>
        refine .inl ⟨ads, G, env, R0, ?_⟩
        rw [q]
        intro ads1 G1 H1 v1 R1 s1 p1
        simp only [VRep, Rep] at p1
        obtain ⟨rfl, g⟩ := p1
        exact ⟨z, rfl, h' ads1 G1 H1 _ R1 s1 (itok_str g)⟩
      | _ => exact .inr (other fun _ z => nomatch z)
theorem ti_range1 (hg : Gl X "range") (hm : X.mg "range" = none) (ha : PA X [a] (TAof c r W el)) (hs : starEach [a] X.env = [(false, eval a X.env)] := by rfl) : PI X tg (.Call (.Name "range" p) [a] [] pos) (TIof c r W (iRngA el)) := by
  refine PI.imp (pi_range1 hg hm ha hs) fun σ H R ⟨ads, G, env, R0, h⟩ => ?_
  refine ⟨ads, G, env, R0, Sat_mono (Sat_bind.mp h) (fun xs e1 h1 ads1 G1 H1 vs R1 s1 p1 => ?_) fun _ _ z => z⟩
  cases q : looks e1 xs with
  | none => simp only [q] at h1; exact h1.elim
  | some ts =>
    have w := looks_rep R1 p1 q
    simp only [q] at h1
    split at h1
    · rename_i j e
      cases e
      obtain ⟨v, rfl, rfl⟩ := pair1 w
      by_cases hj : -1000000000 ≤ j ∧ j ≤ 1000000000
      · rw [if_pos hj] at h1
        exact ⟨j, rfl, by omega, by omega, h1 ads1 G1 H1 _ R1 s1 (itok_range (lo := 0))⟩
      · rw [if_neg hj] at h1; exact h1.elim
    · exact h1.elim
theorem ti_range2 (hg : Gl X "range") (hm : X.mg "range" = none) (ha : PA X [a, b] (TAof c r W el)) (hs : starEach [a, b] X.env = [(false, eval a X.env), (false, eval b X.env)] := by rfl) (hs2 : starEach [b] X.env = [(false, eval b X.env)] := by rfl) : PI X tg (.Call (.Name "range" p) [a, b] [] pos) (TIof c r W (iRngB el)) := by
  refine PI.imp (pi_range2 hg hm ha hs hs2) fun σ H R ⟨ads, G, env, R0, h⟩ => ?_
  refine ⟨ads, G, env, R0, Sat_mono (Sat_bind.mp h) (fun xs e1 h1 ads1 G1 H1 vs R1 s1 p1 => ?_) fun _ _ z => z⟩
  cases q : looks e1 xs with
  | none => simp only [q] at h1; exact h1.elim
  | some ts =>
    have w := looks_rep R1 p1 q
    simp only [q] at h1
    split at h1
    · rename_i i j e
      cases e
      obtain ⟨v, u, rfl, rfl, rfl⟩ := pair2 w
      by_cases hj : -1000000000 ≤ i ∧ i ≤ 1000000000 ∧ -1000000000 ≤ j ∧ j ≤ 1000000000
      · rw [if_pos hj] at h1
        exact ⟨i, j, rfl, by omega, h1 ads1 G1 H1 _ R1 s1 itok_range⟩
      · rw [if_neg hj] at h1; exact h1.elim
    · exact h1.elim
theorem enumL_get : ∀ {ts : List PV} {n i : Nat}, (enumL n ts)[i]? = (ts[i]?).map fun t => PV.tup [.int ((n + i : Nat) : Int), t]
  | [], n, i => by simp [enumL]
  | t :: ts, n, 0 => by simp [enumL]
  | t :: ts, n, i + 1 => by
    simp only [enumL, List.getElem?_cons_succ]
    rw [enumL_get]
    have e : n + 1 + i = n + (i + 1) := by omega
    rw [e]
theorem enumL_len : ∀ {ts : List PV} {n : Nat}, (enumL n ts).length = ts.length
  | [], _ => rfl
  | _ :: ts, n => by simp [enumL, enumL_len (ts := ts)]
theorem rep_pair {G H : Hp} {x y : PV} {u v : V} {p : Addr} (s : Sub G H) (hp : H p = none) (h1 : Rep c G x u) (h2 : Rep c G y v) : Step [] H G (upd H p (.tup [u, v])) (upd G p (.tup [u, v])) ∧ Rep c (upd G p (.tup [u, v])) (.tup [x, y]) (.ref p) := by
  have st := Step.alloc (o := .tup [u, v]) s hp
  refine ⟨st, ?_⟩
  simp only [Rep]
  exact ⟨p, _, rfl, .inl (.inl upd_same), RepL.cons (h1.mono st.sub) (RepL.one (h2.mono st.sub))⟩
theorem itok_enum {K : PySem.W.Frag} {G : Hp} {p : Addr} {x : Vl} {ts : List PV} {vs : List V} (h : G p = some (.lst vs)) (rr : RepL c G ts vs) : ItOk c r G x (enumL 0 ts) (Ite K p) := fun i ads G' H σ env R s1 _ => by
  have h' : SqL K H p vs := .inl (.inl (R.sub _ _ (s1 _ _ h)))
  refine ⟨fun t ht => ?_, fun hl => ⟨vs, h', by rw [rr.length]; rw [enumL_len] at hl; exact hl⟩⟩
  rw [enumL_get] at ht
  obtain ⟨t0, h0, rfl⟩ := map_some ht
  obtain ⟨u, hu, ru⟩ := rr.get h0
  refine ⟨⟨vs, u, h', hu⟩, fun v H' ⟨T, w, e1, hT, e2, y⟩ => ?_⟩
  subst e1; subst e2
  have z := y vs h'
  rw [hu] at z; cases z
  have q := rep_pair (x := .int ((0 + i : Nat) : Int)) (u := .int ((i : Nat) : Int)) R.sub hT (by rw [Nat.zero_add]; exact rep_int G') (ru.mono s1)
  exact ⟨_, q⟩
theorem ti_enum {elts : List Expr} {kk : Nat} {tpos : Pos} (hg : Gl X "enumerate") (hm : X.mg "enumerate" = none) (ha : PA X [e] (TAof c r W el)) (hs : starEach [e] X.env = [(false, eval e X.env)] := by rfl) : PI X (.Tuple elts kk tpos) (.Call (.Name "enumerate" p) [e] [] pos) (TIof c r W (iEnumL el)) := by
  refine PI.imp (pi_enum hg hm ha hs) fun σ H R ⟨ads, G, env, R0, h⟩ => ?_
  refine ⟨ads, G, env, R0, Sat_mono (Sat_bind.mp h) (fun xs e1 h1 ads1 G1 H1 vs R1 s1 p1 => ?_) fun _ _ z => z⟩
  cases q : trees xs with
  | none => simp only [q] at h1; exact h1.elim
  | some ts =>
    have rr := trees_rep p1 q
    simp only [q] at h1
    split at h1
    · rename_i us e
      cases e
      obtain ⟨v, u, rfl, rv, ru⟩ := rr
      cases ru
      simp only [Rep] at rv
      obtain ⟨a, ws, rfl, hx, rw⟩ := rv
      exact ⟨a, ws, rfl, .inl (.inl (R1.sub _ _ hx)), h1 ads1 G1 H1 _ R1 s1 (itok_enum hx rw)⟩
    · exact h1.elim
theorem zipP_get {xs ys : List PV} {i : Nat} {t : PV} (h : (zipP xs ys)[i]? = some t) : ∃ x y, xs[i]? = some x ∧ ys[i]? = some y ∧ t = .tup [x, y] := by
  unfold zipP at h
  rw [List.getElem?_zipWith] at h
  cases q1 : xs[i]? with
  | none => rw [q1] at h; cases h
  | some x =>
    rw [q1] at h
    cases q2 : ys[i]? with
    | none => rw [q2] at h; cases h
    | some y => rw [q2] at h; cases h; exact ⟨x, y, rfl, rfl, rfl⟩
theorem itok_zip {K : PySem.W.Frag} {G : Hp} {p q : Addr} {x : Vl} {ts us : List PV} {vs ws : List V} (h : G p = some (.lst vs)) (h2 : G q = some (.lst ws)) (rr : RepL c G ts vs) (rs : RepL c G us ws) : ItOk c r G x (zipP ts us) (Itz K p q) := fun i ads G' H σ env R s1 _ => by
  have h' : SqL K H p vs := .inl (.inl (R.sub _ _ (s1 _ _ h)))
  have h2' : SqL K H q ws := .inl (.inl (R.sub _ _ (s1 _ _ h2)))
  refine ⟨fun t ht => ?_, fun hl => ⟨vs, ws, h', h2', ?_⟩⟩
  · obtain ⟨a, b, ha, hb, rfl⟩ := zipP_get ht
    obtain ⟨u, hu, ru⟩ := rr.get ha
    obtain ⟨u2, hu2, ru2⟩ := rs.get hb
    refine ⟨⟨vs, ws, u, u2, h', h2', hu, hu2⟩, fun v H' ⟨T, w1, w2, e1, hT, e2, y1, y2⟩ => ?_⟩
    subst e1; subst e2
    have z := y1 vs h'
    rw [hu] at z; cases z
    have z := y2 ws h2'
    rw [hu2] at z; cases z
    exact ⟨_, rep_pair R.sub hT (ru.mono s1) (ru2.mono s1)⟩
  · unfold zipP at hl
    rw [List.length_zipWith] at hl
    rw [rr.length, rs.length]
    omega
theorem itok_zipT {G : Hp} {p q : Addr} {x : Vl} {ts us : List PV} {vs ws : List V} (h : SqT c.K G p vs) (h2 : SqT c.K G q ws) (rr : RepL c G ts vs) (rs : RepL c G us ws) : ItOk c r G x (zipP ts us) (RZ.ItzT c.K p q) := fun i ads G' H σ env R s1 _ => by
  have h' := R.sub.sqT (s1.sqT h)
  have h2' := R.sub.sqT (s1.sqT h2)
  refine ⟨fun t ht => ?_, fun hl => ⟨vs, ws, h', h2', ?_⟩⟩
  · obtain ⟨a, b, ha, hb, rfl⟩ := zipP_get ht
    obtain ⟨u, hu, ru⟩ := rr.get ha
    obtain ⟨u2, hu2, ru2⟩ := rs.get hb
    refine ⟨⟨vs, ws, u, u2, h', h2', hu, hu2⟩, fun v H' ⟨T, w1, w2, e1, hT, e2, y1, y2⟩ => ?_⟩
    subst e1; subst e2
    have z := y1 vs h'
    rw [hu] at z; cases z
    have z := y2 ws h2'
    rw [hu2] at z; cases z
    exact ⟨_, rep_pair R.sub hT (ru.mono s1) (ru2.mono s1)⟩
  · unfold zipP at hl
    rw [List.length_zipWith] at hl
    rw [rr.length, rs.length]
    omega
theorem ti_zip {elts : List Expr} {kk : Nat} {tpos : Pos} (hK : X.K = c.K) (hg : Gl X "zip") (hm : X.mg "zip" = none) (ha : PA X [a, b] (TAof c r W el)) (hs : starEach [a, b] X.env = (false, eval a X.env) :: starEach [b] X.env := by rfl) (hpl : (backTo pos (starEach [b] X.env)).any (·.1) = false := by rfl) :
    PI X (.Tuple elts kk tpos) (.Call (.Name "zip" p) [a, b] [] pos) (TIof c r W (iZipL el)) := by
  refine PI.imp (RZ.pi_zipA hg hm ha hs hpl) fun σ H R ⟨ads, G, env, R0, h⟩ => ?_
  refine ⟨ads, G, env, R0, Sat_mono (Sat_bind.mp h) (fun xs e1 h1 ads1 G1 H1 vs R1 s1 p1 => ?_) fun _ _ z => z⟩
  cases q : trees xs with
  | none => simp only [q] at h1; exact h1.elim
  | some ts =>
    have rr := trees_rep p1 q
    simp only [q] at h1
    split at h1
    · rename_i us ws e
      cases e
      obtain ⟨v, u, rfl, rv, v2, u2, rfl, rv2, ru⟩ := rr
      cases ru
      simp only [Rep] at rv rv2
      obtain ⟨b1, ws1, rfl, hx, rw1⟩ := rv
      obtain ⟨b2, ws2, rfl, hx2, rw2⟩ := rv2
      exact ⟨b1, b2, ws1, ws2, rfl, .inl ⟨.inl (.inl (R1.sub _ _ hx)), .inl (.inl (R1.sub _ _ hx2)), h1 ads1 G1 H1 _ R1 s1 (itok_zip hx hx2 rw1 rw2)⟩⟩
    · rename_i us ws e
      cases e
      obtain ⟨v, u, rfl, rv, v2, u2, rfl, rv2, ru⟩ := rr
      cases ru
      simp only [Rep] at rv rv2
      obtain ⟨b1, ws1, rfl, hx, rw1⟩ := rv
      obtain ⟨b2, ws2, rfl, hx2, rw2⟩ := rv2
      refine ⟨b1, b2, ws1, ws2, rfl, .inr ⟨by rw [hK]; exact R1.sub.sqT hx, by rw [hK]; exact R1.sub.sqT hx2, ?_⟩⟩
      rw [hK]
      exact h1 ads1 G1 H1 _ R1 s1 (itok_zipT hx hx2 rw1 rw2)
    · exact h1.elim
end

/-! ### comprehensions -/
section
variable {X : Cx} {c : TC} {r : Ref} {W : WX} {elt tg iter : Expr} {ifs : List Expr} {scope : Scope} {own : List (Str × Nat)} {pos : Pos} {ev : EvI} {us : List Nat} {g : Tg} {et : EvT} {ea : EvE}
theorem pf_lc (hc : X.calm = true) (hN : X.N.Nodup) (hp : ∀ j ∈ own.map (·.2), (r.pins.map Prod.fst).contains j = false) (hu : ∀ j ∈ us, j ∈ own.map (·.2)) (hi : PI X tg iter (TIof c r W ev)) (ok : BlkOk X.N X.env.scope scope own)
    (hg : ∀ (s : Shared) (H : Hp) (C : Addr) (cl : List (Str × Addr)) (fp : List Addr), PG (X.blk s H scope (compEnvC scope cl C X.env) fp) tg (TGof c r us g)) (ht : ∀ (s : Shared) (H : Hp) (C : Addr) (cl : List (Str × Addr)) (fp : List Addr), PTs (X.blk s H scope (compEnvC scope cl C X.env) fp) ifs (TTof c r W0 et))
    (he : ∀ (s : Shared) (H : Hp) (C : Addr) (cl : List (Str × Addr)) (fp : List Addr), PE (X.blk s H scope (compEnvC scope cl C X.env) fp) elt (TEof c r W0 ea)) (hs : ∀ x, foldedSetIterable iter X.env x = pure x := by intro _; rfl) :
    PE X (.ListComp elt [⟨tg, iter, ifs, 0⟩] scope pos) (TFof c r W (fComp ev g et ea (own.map (·.2)))) := PE.imp (pe_lc hc hN hi ok hg ht he hs) fun _ _ _ h => lc_imp hp hu h
/-- y = [..] on one line -/
theorem ts_ownLc {i : Nat} {y : Str} {py spos : Pos} (hc : X.calm = true) (hN : X.N.Nodup) (hy : X.N[i]? = some y) (hyl : X.env.scope.names.lookup y = some .local) (hpi : (r.pins.map Prod.fst).contains i = false)
    (hsw : swapsWith (.ListComp elt [⟨tg, iter, ifs, 0⟩] scope pos) (some (.Name y py)) spos.line X.env = pure true) (hp : ∀ j ∈ own.map (·.2), (r.pins.map Prod.fst).contains j = false) (hu : ∀ j ∈ us, j ∈ own.map (·.2)) (hi : PI X tg iter (TIof c r W ev)) (ok : BlkOk X.N X.env.scope scope own)
    (hg : ∀ (s : Shared) (H : Hp) (C : Addr) (cl : List (Str × Addr)) (fp : List Addr), PG (X.blk s H scope (compEnvC scope cl C X.env) fp) tg (TGof c r us g)) (ht : ∀ (s : Shared) (H : Hp) (C : Addr) (cl : List (Str × Addr)) (fp : List Addr), PTs (X.blk s H scope (compEnvC scope cl C X.env) fp) ifs (TTof c r W0 et))
    (he : ∀ (s : Shared) (H : Hp) (C : Addr) (cl : List (Str × Addr)) (fp : List Addr), PE (X.blk s H scope (compEnvC scope cl C X.env) fp) elt (TEof c r W0 ea)) (hs : ∀ x, foldedSetIterable iter X.env x = pure x := by intro _; rfl) :
    PS X (.Assign [.Name y py] (.ListComp elt [⟨tg, iter, ifs, 0⟩] scope pos) spos) (TSof c r W (sOwn i (fComp ev g et ea (own.map (·.2))))) := PS.imp (ps_setLc hc hN hy hyl hsw hi ok hg ht he hs) fun D σ H ⟨ads, G, env, R, h⟩ => by
  have z := own_imp hpi (ef := fComp ev g et ea (own.map (·.2))) ⟨ads, G, env, R, h⟩
  exact lc_imp hp hu z
theorem set_imp {ea : EvE} {i : Nat} (hp : (r.pins.map Prod.fst).contains i = false) {D : Ends} {σ : L2.St} {H : Hp} (h : TSof c r W (sAsg ea (gNm i)) D σ H) : tAsg (TEof c r W ea) (gName i) D σ H := by
  obtain ⟨ads, G, env, R, h⟩ := h
  refine ⟨ads, G, env, R, Sat_mono (RE.so_Sat.mp h) (fun x e1 h1 ads1 G1 H1 v1 R1 s1 p1 => ?_) fun x e z => XC.of z⟩
  cases x with
  | sl i => exact h1.elim
  | tr t => exact h1 _ G1 H1 _ (R1.set p1 hp) s1.sub
theorem of_imp {ef : EvF} {σ : L2.St} {H : Hp} {Q : VK} (h : TEof c r W (eOf ef) σ H Q) : TFof c r W ef σ H Q := by
  obtain ⟨ads, G, env, R, h⟩ := h
  refine ⟨ads, G, env, R, Sat_mono (Sat_bind.mp h) (fun o e1 h1 ads1 G1 H1 p1 ad R1 s1 ow nw => ?_) fun _ _ z => z⟩
  cases q : o.tree with
  | none => simp only [q] at h1; exact h1.elim
  | some t =>
    simp only [q] at h1
    obtain ⟨ho, hp⟩ := ow.one q
    have n1 := nw p1 (by rw [ow.ad q]; exact List.mem_singleton.mpr rfl)
    obtain ⟨s2, R2⟩ := R1.know hp n1.1
    exact h1 ads1 _ H1 (.ref p1) R2 (s1.fresh n1.1.1 n1.2) (ow.known q hp s2)
theorem ts_setLc {i : Nat} {y : Str} {py spos : Pos} (hc : X.calm = true) (hN : X.N.Nodup) (hy : X.N[i]? = some y) (hyl : X.env.scope.names.lookup y = some .local) (hpi : (r.pins.map Prod.fst).contains i = false)
    (hsw : swapsWith (.ListComp elt [⟨tg, iter, ifs, 0⟩] scope pos) (some (.Name y py)) spos.line X.env = pure true) (hp : ∀ j ∈ own.map (·.2), (r.pins.map Prod.fst).contains j = false) (hu : ∀ j ∈ us, j ∈ own.map (·.2)) (hi : PI X tg iter (TIof c r W ev)) (ok : BlkOk X.N X.env.scope scope own)
    (hg : ∀ (s : Shared) (H : Hp) (C : Addr) (cl : List (Str × Addr)) (fp : List Addr), PG (X.blk s H scope (compEnvC scope cl C X.env) fp) tg (TGof c r us g)) (ht : ∀ (s : Shared) (H : Hp) (C : Addr) (cl : List (Str × Addr)) (fp : List Addr), PTs (X.blk s H scope (compEnvC scope cl C X.env) fp) ifs (TTof c r W0 et))
    (he : ∀ (s : Shared) (H : Hp) (C : Addr) (cl : List (Str × Addr)) (fp : List Addr), PE (X.blk s H scope (compEnvC scope cl C X.env) fp) elt (TEof c r W0 ea)) (hs : ∀ x, foldedSetIterable iter X.env x = pure x := by intro _; rfl) :
    PS X (.Assign [.Name y py] (.ListComp elt [⟨tg, iter, ifs, 0⟩] scope pos) spos) (TSof c r W (sAsg (eOf (fComp ev g et ea (own.map (·.2)))) (gNm i))) := PS.imp (ps_setLc hc hN hy hyl hsw hi ok hg ht he hs) fun D σ H h =>
  lc_imp hp hu (of_imp (set_imp hpi h))
end

/-! ### a op1 b op2 c -/
@[simp] def eChn (f f' : PV → PV → Option PV) (ea eb ec : EvE) : EvE := fun env => (ea env).bind fun a e1 => (eb e1).bind fun b e2 =>
  match look e2 a, look e2 b with
  | some x, some y => (match f x y with
    | some (.bl true) => (ec e2).bind fun z e3 => (match look e3 b, look e3 z with
      | some y, some z => (ofO (f' y z) e3).bind fun t e => .ok (.tr t) e
      | _, _ => .bad)
    | some (.bl false) => .ok (.tr (.bl false)) e2
    | _ => .bad)
  | _, _ => .bad
section
variable {X : Cx} {c : TC} {r : Ref} {W : WX} {a b d : Expr} {ea eb ec : EvE} {pos : Pos}
theorem chn_imp {op op' : CmpOp} {f f' : PV → PV → Option PV} (ho : OpP X c (compareOp op) f) (ho' : OpP X c (compareOp op') f') {σ : L2.St} {H : Hp} {Q : VK} (h : TEof c r W (eChn f f' ea eb ec) σ H Q) :
    tChain (rAny2 X (compareOp op)) (rAny2 X (compareOp op')) (TEof c r W ea) (TEof c r W eb) (TEof c r W ec) σ H Q := by
  obtain ⟨ads, G, env, R, h⟩ := h
  refine ⟨ads, G, env, R, Sat_mono (Sat_bind.mp h) (fun x e1 h1 ads1 G1 H1 v1 R1 s1 p1 => ?_) fun _ _ z => z⟩
  refine ⟨ads1, G1, e1, R1, Sat_mono (Sat_bind.mp h1) (fun y e2 h2 ads2 G2 H2 v2 R2 s2 p2 => ?_) fun x e z => z.weak s1.sub⟩
  cases q1 : look e2 x with
  | none => simp only [q1] at h2; exact h2.elim
  | some t1 =>
    cases q2 : look e2 y with
    | none => simp only [q1, q2] at h2; exact h2.elim
    | some t2 =>
      simp only [q1, q2] at h2
      cases q3 : f t1 t2 with
      | none => simp only [q3] at h2; exact h2.elim
      | some t =>
        cases t with
        | bl k =>
          refine ho G2 H2 t1 t2 (.bl k) v1 v2 _ q3 R2.sub (look_rep R2 (p1.mono s2.sub) q1) (look_rep R2 p2 q2) fun v H' G' st p => ?_
          simp only [Rep] at p
          subst p
          refine ⟨k, rfl, ?_⟩
          have R3 := R2.next st
          cases k with
          | false =>
            simp only [q3] at h2
            exact iteF (h2 ads2 G' H' (.bl false) R3 ((s1.trans s2).trans (Nxt.of st)) (rep_bl (c := c) G'))
          | true =>
            simp only [q3] at h2
            refine iteT ⟨ads2, G', e2, R3, Sat_mono (Sat_bind.mp h2) (fun z e3 h3 ads3 G3 H3 v3 R4 s3 p3 => ?_) fun x e z => z.weak (s1.sub.trans (s2.sub.trans st.sub))⟩
            cases q4 : look e3 y with
            | none => simp only [q4] at h3; exact h3.elim
            | some t2' =>
              cases q5 : look e3 z with
              | none => simp only [q4, q5] at h3; exact h3.elim
              | some t3 =>
                simp only [q4, q5] at h3
                obtain ⟨t, ht, h4⟩ := Sat_ofO.mp (Sat_bind.mp h3)
                exact ho' G3 H3 t2' t3 t v2 v3 Q ht R4.sub (look_rep R4 (p2.mono (st.sub.trans s3.sub)) q4) (look_rep R4 p3 q5) fun v H' G' st' p => h4 ads3 G' H' v (R4.next st') ((((s1.trans s2).trans (Nxt.of st)).trans s3).trans (Nxt.of st')) p
        | _ => simp only [q3] at h2; exact h2.elim
theorem pt_chain {op op' : CmpOp} {f f' : PV → PV → Option PV} (ho : OpP X c (compareOp op) f) (ho' : OpP X c (compareOp op') f') (ha : PE X a (TEof c r W ea)) (hb : PE X b (TEof c r W eb)) (hd : PE X d (TEof c r W ec)) (hm : lastMarks [op, op'] [b, d] = false := by with_unfolding_all rfl) :
    PE X (.Compare a [op, op'] [b, d] pos) (TEof c r W (eChn f f' ea eb ec)) := PE.imp (pe_chain opAny opAny ha hb hd hm) fun _ _ _ h => chn_imp ho ho' h
@[simp] def tOfE (ea : EvE) : EvT := fun env => (ea env).bind fun x e => match look e x with
  | some (.bl k) => .ok k e
  | _ => .bad
theorem tt_chain {op op' : CmpOp} {f f' : PV → PV → Option PV} (ho : OpP X c (compareOp op) f) (ho' : OpP X c (compareOp op') f') (ha : PE X a (TEof c r W ea)) (hb : PE X b (TEof c r W eb)) (hd : PE X d (TEof c r W ec)) (hm : lastMarks [op, op'] [b, d] = false := by with_unfolding_all rfl) :
    PT X (.Compare a [op, op'] [b, d] pos) (TTof c r W (tOfE (eChn f f' ea eb ec))) := PT.imp (L2.pt_chain opAny opAny ha hb hd hm) fun σ H Q ⟨ads, G, env, R, h⟩ => by
  refine chn_imp ho ho' ⟨ads, G, env, R, Sat_mono (Sat_bind.mp h) (fun x e1 h1 ads1 G1 H1 v1 R1 s1 p1 => ?_) fun _ _ z => z⟩
  cases q : look e1 x with
  | none => simp only [q] at h1; exact h1.elim
  | some t =>
    have w := look_rep R1 p1 q
    cases t with
    | bl k =>
      simp only [q] at h1
      cases w
      exact ⟨k, rfl, h1 ads1 G1 H1 R1 s1⟩
    | _ => simp only [q] at h1; exact h1.elim
end
end TreeL
end
section
/-! TL10: several new things at once, x, y = a, b; isinstance; match. -/
namespace TreeL
open PySem PySem.Spec PyProof.Rows L2

/-! ### several results -/
abbrev EvB := En → RE (List Arg)
def ResAd (c : TC) (r : Ref) (ads' : Nat → List Addr) (G' H H' : Hp) (ad : List Addr) : Arg → V → Prop
  | .t t, v => ad = [] ∧ Rep c G' t v
  | .ow o, v => ∃ p, v = .ref p ∧ OwRep c G' H' p ad o ∧ ∀ a ∈ ad, New r ads' G' a ∧ H a = none
def NewL (c : TC) (r : Ref) (ads' : Nat → List Addr) (G' H H' : Hp) : List (List Addr) → List Arg → List V → Prop
  | [], [], [] => True
  | ad :: adl, a :: as, v :: vs => ResAd c r ads' G' H H' ad a v ∧ (∀ x ∈ ad, x ∉ adl.flatten) ∧ NewL c r ads' G' H H' adl as vs
  | _, _, _ => False
def TBof (c : TC) (r : Ref) (W : WX) (ev : EvB) : TA := fun σ H Q => ∃ ads G env, RS c r ads G H σ env ∧
  (ev env).Sat (fun as env' => ∀ ads' G' H' adl vs, RS c r ads' G' H' σ env' → Nxt ads G H ads' G' H' → NewL c r ads' G' H H' adl as vs → Q vs H') (XC c r W G σ)
@[simp] def bNil : EvB := fun env => .ok [] env
@[simp] def bCons (er : EvR) (eb : EvB) : EvB := fun env => (er env).bind fun a e1 => (eb e1).bind fun as e2 => .ok (a :: as) e2
@[simp] def rTree (ea : EvE) : EvR := fun env => (ea env).bind fun x e => match x with
  | .tr t => .ok (.t t) e
  | .sl _ => .bad
@[simp] def rOwn (ef : EvF) : EvR := fun env => (ef env).bind fun o e => .ok (.ow o) e
section
variable {X : Cx} {c : TC} {r : Ref} {W : WX} {a b e : Expr} {as es : List Expr} {ea : EvE} {ef : EvF} {er : EvR} {eb : EvB} {pos : Pos}
theorem tr_tree (h : PE X e (TEof c r W ea)) : PE X e (TRof c r W (rTree ea)) := PE.imp h fun σ H Q ⟨ads, G, env, R, h⟩ => by
  refine ⟨ads, G, env, R, Sat_mono (Sat_bind.mp h) (fun x e1 h1 ads1 G1 H1 v1 R1 s1 p1 => ?_) fun _ _ z => z⟩
  cases x with
  | sl i => exact h1.elim
  | tr t => exact h1 ads1 G1 H1 v1 R1 s1 p1
theorem tr_own (h : PE X e (TFof c r W ef)) : PE X e (TRof c r W (rOwn ef)) := PE.imp h fun σ H Q ⟨ads, G, env, R, h⟩ =>
  ⟨ads, G, env, R, Sat_mono (Sat_bind.mp h) (fun o e1 h1 ads1 G1 H1 p1 ad R1 s1 ow nw => h1 ads1 G1 H1 (.ref p1) R1 s1 ⟨p1, ad, rfl, ow, nw⟩) fun _ _ z => z⟩
theorem tb_nil : PA X [] (TBof c r W bNil) := PA.imp pa_nil fun σ H Q ⟨ads, G, env, R, h⟩ => h ads G H [] [] R (Nxt.refl _ _ _) trivial
theorem OwRep.on {G G1 H H1 : Hp} {p : Addr} {ad : List Addr} {o : OS} (s : Sub G G1) (h : OwRep c G H p ad o) (k : ∀ a ∈ ad, ∀ u, H a = some u → H1 a = some u) : OwRep c G1 H1 p ad o := by
  have z : SlotRep c G H ad (some (.ow o)) (some (.ref p)) := ⟨p, rfl, h⟩
  obtain ⟨q, e, w⟩ := z.stay s k
  cases e
  exact w
theorem tb_cons (ha : PE X e (TRof c r W er)) (hr : PA X es (TBof c r W eb)) (hs : starEach (e :: es) X.env = (false, eval e X.env) :: starEach es X.env := by rfl) : PA X (e :: es) (TBof c r W (bCons er eb)) :=
  PA.imp (pa_cons ha hr hs) fun σ H Q ⟨ads, G, env, R, h⟩ => by
    refine ⟨ads, G, env, R, Sat_mono (Sat_bind.mp h) (fun x e1 h1 ads1 G1 H1 v1 R1 s1 p1 => ?_) fun _ _ z => z⟩
    refine ⟨ads1, G1, e1, R1, Sat_mono (Sat_bind.mp h1) (fun xs e2 h2 ads2 G2 H2 adl vs R2 s2 p2 => ?_) fun x e z => z.weak s1.sub⟩
    cases x with
    | t t => 
      refine h2 ads2 G2 H2 ([] :: adl) (v1 :: vs) R2 (s1.trans s2) ⟨⟨rfl, Rep.mono s2.sub p1⟩, (fun _ z => nomatch z), ?_⟩
      have key : ∀ {adl : List (List Addr)} {as : List Arg} {vs : List V}, NewL c r ads2 G2 H1 H2 adl as vs → NewL c r ads2 G2 H H2 adl as vs := fun {adl} => by
        induction adl with
        | nil => intro as vs h; cases as <;> cases vs <;> exact h
        | cons ad adl ih =>
          intro as vs h
          cases as with
          | nil => exact h.elim
          | cons a as =>
            cases vs with
            | nil => exact h.elim
            | cons v vs =>
              refine ⟨?_, h.2.1, ih h.2.2⟩
              cases a with
              | t t => exact h.1
              | ow o =>
                obtain ⟨p, e0, ow, nw⟩ := h.1
                exact ⟨p, e0, ow, fun b hb => ⟨(nw b hb).1, s1.there b (nw b hb).2⟩⟩
      exact key p2
    | ow o =>
      obtain ⟨p, ad, e0, ow, nw⟩ := p1
      have hold : ∀ b ∈ ad, ∃ u, H1 b = some u ∧ H2 b = some u ∧ (∀ j, b ∉ ads2 j) ∧ G2 b = none := fun b hb => by
        obtain ⟨u, hu⟩ := ow.has b hb
        obtain ⟨z1, z2, z3⟩ := s2.hold b u hu (nw b hb).1.2.2
        exact ⟨u, hu, z1, z2, z3 (nw b hb).1.1⟩
      have ow2 : OwRep c G2 H2 p ad o := ow.on s2.sub fun b hb u hu => by
        obtain ⟨u', h1', h2', _⟩ := hold b hb
        rw [hu] at h1'; cases h1'
        exact h2'
      have key : ∀ {adl : List (List Addr)} {as : List Arg} {vs : List V}, NewL c r ads2 G2 H1 H2 adl as vs → NewL c r ads2 G2 H H2 adl as vs ∧ ∀ x ∈ adl.flatten, H1 x = none := fun {adl} => by
        induction adl with
        | nil => intro as vs h; cases as <;> cases vs <;> exact ⟨h, (fun _ z => nomatch z)⟩
        | cons ad adl ih =>
          intro as vs h
          cases as with
          | nil => exact h.elim
          | cons a as =>
            cases vs with
            | nil => exact h.elim
            | cons v vs =>
              obtain ⟨k1, k2⟩ := ih h.2.2
              cases a with
              | t t =>
                refine ⟨⟨h.1, h.2.1, k1⟩, fun x hx => ?_⟩
                rw [List.flatten_cons, h.1.1, List.nil_append] at hx
                exact k2 x hx
              | ow o =>
                obtain ⟨p, e0, ow, nw⟩ := h.1
                refine ⟨⟨⟨p, e0, ow, fun b hb => ⟨(nw b hb).1, s1.there b (nw b hb).2⟩⟩, h.2.1, k1⟩, fun x hx => ?_⟩
                rw [List.flatten_cons] at hx
                rcases List.mem_append.mp hx with z | z
                · exact (nw x z).2
                · exact k2 x z
      obtain ⟨k1, k2⟩ := key p2
      refine h2 ads2 G2 H2 (ad :: adl) (v1 :: vs) R2 (s1.trans s2) ⟨⟨p, e0, ow2, fun b hb => ?_⟩, fun x hx hm => ?_, k1⟩
      · obtain ⟨u, h1', h2', z2, z3⟩ := hold b hb
        exact ⟨⟨z3, (nw b hb).1.2.1, z2⟩, (nw b hb).2⟩
      · obtain ⟨u, h1', _⟩ := hold x hx
        rw [k2 x hm] at h1'; cases h1'
/-- a result is stored in a slot -/
theorem RS.put {ads : Nat → List Addr} {G H0 H : Hp} {σ : L2.St} {env : En} {i : Nat} {x : Arg} {v : V} {ad : List Addr} (R : RS c r ads G H σ env) (h : ResAd c r ads G H0 H ad x v) (hp : (r.pins.map Prod.fst).contains i = false) (hi : i < env.length) :
    RS c r (fun j => if j = i then ad else ads j) G H (σ.set i (some v)) (env.set i (some x)) := by
  cases x with
  | t t =>
    obtain ⟨rfl, h⟩ := h
    exact R.set h hp
  | ow o =>
    obtain ⟨p, rfl, ow, nw⟩ := h
    exact R.setOwn ow (fun a ha => (nw a ha).1) hp hi
theorem ResAd.put {ads : Nat → List Addr} {G H0 H : Hp} {x : Arg} {v : V} {ad ad' : List Addr} {i : Nat} (h : ResAd c r ads G H0 H ad x v) (no : ∀ a ∈ ad, a ∉ ad') : ResAd c r (fun j => if j = i then ad' else ads j) G H0 H ad x v := by
  cases x with
  | t t => exact h
  | ow o =>
    obtain ⟨p, rfl, ow, nw⟩ := h
    refine ⟨p, rfl, ow, fun a ha => ⟨⟨(nw a ha).1.1, (nw a ha).1.2.1, fun j hj => ?_⟩, (nw a ha).2⟩⟩
    have hj' : a ∈ (if j = i then ad' else ads j) := hj
    by_cases q : j = i
    · rw [if_pos q] at hj'; exact no a ha hj'
    · rw [if_neg q] at hj'; exact (nw a ha).1.2.2 j hj'
/-- x, y = a, b -/
@[simp] def sPar (i j : Nat) (eb : EvB) : EvS := fun env => (eb env).so fun as e => match as with
  | [x, y] => if i < e.length ∧ j < e.length then .nx ((e.set i (some x)).set j (some y)) else .bad
  | _ => .bad
theorem ts_par {i j : Nat} {x y : Str} {px py pt pt2 : Pos} {kt k2 : Nat} (hc : X.calm = true) (hN : X.N.Nodup) (hi : X.N[i]? = some x) (hj : X.N[j]? = some y) (hij : i ≠ j) (hx : X.env.scope.names.lookup x = some .local) (hy : X.env.scope.names.lookup y = some .local)
    (hpi : (r.pins.map Prod.fst).contains i = false) (hpj : (r.pins.map Prod.fst).contains j = false) (ha : PA X [a, b] (TBof c r W eb)) (hw : swappedStores [.Tuple [.Name x px, .Name y py] kt pt] (.Tuple [a, b] k2 pt2) X.env = pure (some [x, y]) := by rfl)
    (hs : swapsWithSole [.Tuple [.Name x px, .Name y py] kt pt] (.Tuple [a, b] k2 pt2) pos.line X.env = pure false := by rfl) : PS X (.Assign [.Tuple [.Name x px, .Name y py] kt pt] (.Tuple [a, b] k2 pt2) pos) (TSof c r W (sPar i j eb)) :=
  PS.imp (ps_par hc hN hi hj hij hx hy ha hw hs) fun D σ H ⟨ads, G, env, R, h⟩ => by
    refine ⟨ads, G, env, R, Sat_mono (RE.so_Sat.mp h) (fun as e1 h1 ads1 G1 H1 adl vs R1 s1 nl => ?_) fun x e z => XC.of z⟩
    match as, adl, vs, nl, h1 with
    | [u, w], [ad1, ad2], [v1, v2], nl, h1 =>
      refine ⟨v1, v2, rfl, ?_⟩
      have h1' : (if i < e1.length ∧ j < e1.length then SO.nx ((e1.set i (some u)).set j (some w)) else .bad).Sat (Kof c r W G D) := h1
      by_cases l : i < e1.length ∧ j < e1.length
      · rw [if_pos l] at h1'
        have R2 := R1.put nl.1 hpi l.1
        have q : ResAd c r (fun k => if k = i then ad1 else ads1 k) G1 H H1 ad2 w v2 := nl.2.2.1.put fun a ha hb => nl.2.1 a hb (by simpa using ha)
        have R3 := R2.put q hpj (by rw [List.length_set]; exact l.2)
        exact h1' _ G1 H1 _ R3 s1.sub
      · rw [if_neg l] at h1'; exact h1'.elim
    | [], _, _, _, h1 => exact h1.elim
    | [_], _, _, _, h1 => exact h1.elim
    | _ :: _ :: _ :: _, _, _, _, h1 => exact h1.elim
    | [_, _], [], _, nl, _ => exact nl.elim
    | [_, _], [_], [], nl, _ => exact nl.elim
    | [_, _], [_], _ :: _, nl, _ => exact nl.2.2.elim
    | [_, _], _ :: _ :: _ :: _, [], nl, _ => exact nl.elim
    | [_, _], _ :: _ :: _ :: _, [_], nl, _ => exact nl.2.2.elim
    | [_, _], _ :: _ :: _ :: _, [_, _], nl, _ => exact nl.2.2.2.2.elim
    | [_, _], _ :: _ :: _ :: _, _ :: _ :: _ :: _, nl, _ => exact nl.2.2.2.2.elim
    | [_, _], [_, _], [], nl, _ => exact nl.elim
    | [_, _], [_, _], [_], nl, _ => exact nl.2.2.elim
    | [_, _], [_, _], _ :: _ :: _ :: _, nl, _ => exact nl.2.2.2.2.elim
/-- x, y, z = a, b, c -/
@[simp] def sPar3 (i j k : Nat) (eb : EvB) : EvS := fun env => (eb env).so fun as e => match as with
  | [x, y, z] => if i < e.length ∧ j < e.length ∧ k < e.length then .nx (((e.set i (some x)).set j (some y)).set k (some z)) else .bad
  | _ => .bad
theorem NewL.three {ads : Nat → List Addr} {G H0 H : Hp} {u v w : Arg} : ∀ {adl : List (List Addr)} {vs : List V}, NewL c r ads G H0 H adl [u, v, w] vs → ∃ a1 a2 a3 v1 v2 v3, adl = [a1, a2, a3] ∧ vs = [v1, v2, v3] ∧ ResAd c r ads G H0 H a1 u v1 ∧ ResAd c r ads G H0 H a2 v v2 ∧ ResAd c r ads G H0 H a3 w v3 ∧ (∀ x ∈ a1, x ∉ a2 ∧ x ∉ a3) ∧ ∀ x ∈ a2, x ∉ a3 := fun {adl vs} nl => by
  match adl, vs, nl with
  | [a1, a2, a3], [v1, v2, v3], nl =>
    refine ⟨a1, a2, a3, v1, v2, v3, rfl, rfl, nl.1, nl.2.2.1, nl.2.2.2.2.1, fun x hx => ?_, fun x hx => ?_⟩
    · have z := nl.2.1 x hx
      simp only [List.flatten_cons, List.flatten_nil, List.append_nil, List.mem_append, not_or] at z
      exact z
    · have z := nl.2.2.2.1 x hx
      simpa using z
  | [], vs', nl => cases vs' <;> exact nl.elim
  | [_], [], nl => exact nl.elim
  | [_], _ :: vs', nl => cases vs' <;> exact nl.2.2.elim
  | [_, _], [], nl => exact nl.elim
  | [_, _], [_], nl => exact nl.2.2.elim
  | [_, _], _ :: _ :: vs', nl => cases vs' <;> exact nl.2.2.2.2.elim
  | [_, _, _], [], nl => exact nl.elim
  | [_, _, _], [_], nl => exact nl.2.2.elim
  | [_, _, _], [_, _], nl => exact nl.2.2.2.2.elim
  | [_, _, _], _ :: _ :: _ :: _ :: _, nl => exact nl.2.2.2.2.2.2.elim
  | _ :: _ :: _ :: _ :: _, [], nl => exact nl.elim
  | _ :: _ :: _ :: _ :: _, [_], nl => exact nl.2.2.elim
  | _ :: _ :: _ :: _ :: _, [_, _], nl => exact nl.2.2.2.2.elim
  | _ :: _ :: _ :: _ :: _, _ :: _ :: _ :: vs', nl => cases vs' <;> exact nl.2.2.2.2.2.2.elim
theorem ts_par3 {i j k : Nat} {x y z : Str} {d : Expr} {px py pz pt pt2 : Pos} {kt k2 : Nat} (hc : X.calm = true) (hN : X.N.Nodup) (hi : X.N[i]? = some x) (hj : X.N[j]? = some y) (hk : X.N[k]? = some z) (hij : i ≠ j) (hik : i ≠ k) (hjk : j ≠ k) (hx : X.env.scope.names.lookup x = some .local) (hy : X.env.scope.names.lookup y = some .local) (hz : X.env.scope.names.lookup z = some .local)
    (hpi : (r.pins.map Prod.fst).contains i = false) (hpj : (r.pins.map Prod.fst).contains j = false) (hpk : (r.pins.map Prod.fst).contains k = false) (ha : PA X [a, b, d] (TBof c r W eb))
    (hw : swappedStores [.Tuple [.Name x px, .Name y py, .Name z pz] kt pt] (.Tuple [a, b, d] k2 pt2) X.env = pure (some [x, y, z]) := by rfl)
    (hs : swapsWithSole [.Tuple [.Name x px, .Name y py, .Name z pz] kt pt] (.Tuple [a, b, d] k2 pt2) pos.line X.env = pure false := by rfl) : PS X (.Assign [.Tuple [.Name x px, .Name y py, .Name z pz] kt pt] (.Tuple [a, b, d] k2 pt2) pos) (TSof c r W (sPar3 i j k eb)) :=
  PS.imp (ps_par3 hc hN hi hj hk hij hik hjk hx hy hz ha hw hs) fun D σ H ⟨ads, G, env, R, h⟩ => by
    refine ⟨ads, G, env, R, Sat_mono (RE.so_Sat.mp h) (fun as e1 h1 ads1 G1 H1 adl vs R1 s1 nl => ?_) fun x e z => XC.of z⟩
    match as, nl, h1 with
    | [u, v, w], nl, h1 =>
      obtain ⟨a1, a2, a3, v1, v2, v3, rfl, rfl, n1, n2, n3, no1, no2⟩ := nl.three
      refine ⟨v1, v2, v3, rfl, ?_⟩
      have h1' : (if i < e1.length ∧ j < e1.length ∧ k < e1.length then SO.nx (((e1.set i (some u)).set j (some v)).set k (some w)) else .bad).Sat (Kof c r W G D) := h1
      by_cases l : i < e1.length ∧ j < e1.length ∧ k < e1.length
      · rw [if_pos l] at h1'
        have R2 := R1.put n1 hpi l.1
        have R3 := R2.put (n2.put fun a ha hb => (no1 a hb).1 ha) hpj (by rw [List.length_set]; exact l.2.1)
        have R4 := R3.put ((n3.put fun a ha hb => (no1 a hb).2 ha).put fun a ha hb => no2 a hb ha) hpk (by rw [List.length_set, List.length_set]; exact l.2.2)
        exact h1' _ G1 H1 _ R4 s1.sub
      · rw [if_neg l] at h1'; exact h1'.elim
    | [], _, h1 => exact h1.elim
    | [_], _, h1 => exact h1.elim
    | [_, _], _, h1 => exact h1.elim
    | _ :: _ :: _ :: _ :: _, _, h1 => exact h1.elim
end

/-! ### isinstance -/
inductive Kd where
  | non | bl | int | str | lst | tup | dct | ins (k : Nat) | other
  deriving DecidableEq
@[simp] def kindOf : PV → Kd
  | .non => .non
  | .bl _ => .bl
  | .int _ => .int
  | .str _ => .str
  | .lst _ => .lst
  | .tup _ => .tup
  | .dct _ _ => .dct
  | .ins k _ => .ins k
  | .scr _ => .other
  | .cls _ => .other
def tyVal (c : TC) : Kd → Value
  | .non => .type "NoneType"
  | .bl => .type "bool"
  | .int => .type "int"
  | .str => .type "str"
  | .lst => .type "list"
  | .tup => .type "tuple"
  | .dct => .type "dict"
  | .ins k => .ref (c.C k)
  | .other => .none
/-- what an own class must have for isinstance -/
structure IsiC (K : PySem.W.Frag) (C : Addr) : Prop where
  cl : Cls K C
  ha : PySem.W.findIn K (.ref C) "__class__" = some (some (.builtin "object.__class__"))
  hn : PySem.W.specialIn K (.builtin "object.__class__") "__get__" = some (some (.builtin "getset_descriptor.__get__"))
  htk : PySem.W.takesIn K (.builtin "object.__class__") = some true
  hm : PySem.W.mroIn K C (.type "object") = some true
/-- ks: the own classes that may come -/
@[simp] def isiF (tb : Kd → Option Bool) (ks : List Nat) (t : PV) : Option Bool := match kindOf t with
  | .ins k => if ks.contains k then tb (.ins k) else none
  | .other => none
  | d => tb d
theorem isi_ty {c : TC} {G H : Hp} {t : PV} {v : V} {ks : List Nat} (s : Sub G H) (hk : ∀ k ∈ ks, IsiC c.K (c.C k)) (w : WRep c G H t v) (h : match kindOf t with | .ins k => ks.contains k = true | .other => False | _ => True) : TyX c.K H v (tyVal c (kindOf t)) := by
  cases t with
  | non => cases w; exact .base .non
  | bl b => cases w; exact .base (.bl b)
  | int b => cases w; exact .base (.int b)
  | str b => obtain ⟨rfl, _⟩ := w; exact .base (.str b)
  | lst xs => obtain ⟨p, vs, rfl, hx, _⟩ := w; exact .base (.lst hx)
  | tup xs =>
    obtain ⟨p, vs, rfl, hx, _⟩ := w
    rcases s.sqT hx with (h | ⟨o, h⟩) | ⟨o, its, n, h, hc, _⟩
    · exact .base (.tup h)
    · exact .fTuple h
    · exact .kTuple h hc
  | ins k fs =>
    obtain ⟨p, dx, gs, rfl, hx, _⟩ := w
    have i := hk k (List.contains_iff_mem.mp h)
    exact .base (.ins hx i.cl i.ha i.hn i.htk i.hm)
  | dct b kvs =>
    obtain ⟨p, rfl, hx⟩ := w
    rcases hx with ⟨_, ks, hx, _⟩ | ⟨_, ks, hx, _⟩
    · exact .base (.dK hx)
    · exact .base (.dT hx)
  | scr _ => exact h.elim
  | cls _ => exact h.elim
@[simp] def eIsi (tb : Kd → Option Bool) (ks : List Nat) (ea : EvE) : EvE := fun env => (ea env).bind fun x e => match look e x with
  | some t => (ofO (isiF tb ks t) e).bind fun b e => .ok (.tr (.bl b)) e
  | none => .bad
section
variable {X : Cx} {c : TC} {r : Ref} {W : WX} {e cl : Expr} {cls : List Expr} {ea : EvE} {tb : Kd → Option Bool} {ks : List Nat} {pos p : Pos}
theorem isiF_some {t : PV} {b : Bool} (h : isiF tb ks t = some b) : tb (kindOf t) = some b ∧ (match kindOf t with | .ins k => ks.contains k = true | .other => False | _ => True) := by
  unfold isiF at h
  cases q : kindOf t with
  | ins k =>
    rw [q] at h
    simp only at h
    by_cases m : ks.contains k = true
    · rw [if_pos m] at h; exact ⟨h, m⟩
    · rw [if_neg m] at h; cases h
  | other => rw [q] at h; cases h
  | _ => rw [q] at h; exact ⟨h, trivial⟩
/-- isinstance(e, cl), one class u -/
theorem pt_isi {u : Value} {v : V} (hK : X.K = c.K) (hk : ∀ k ∈ ks, IsiC c.K (c.C k)) (hu : ClsV v u) (ht : ∀ d b, (∀ k, d = .ins k → ks.contains k = true) → tb d = some b → PySem.W.kitOne c.K (tyVal c d) u = some b) (hg : Gl X "isinstance") (hm : X.mg "isinstance" = none) (he : PE X e (TEof c r W ea)) (hcl : PE X cl (tC v))
    (h1 : starEach [e, cl] X.env = (false, eval e X.env) :: starEach [cl] X.env := by rfl) (h2 : starEach [cl] X.env = (false, eval cl X.env) :: starEach [] X.env := by rfl) (hpl : (backTo pos (starEach [cl] X.env)).any (·.1) = false := by rfl) :
    PE X (.Call (.Name "isinstance" p) [e, cl] [] pos) (TEof c r W (eIsi tb ks ea)) := PE.imp (pe_callB call_isi hg hm boot_isinstance (pa_cons he (pa_cons hcl pa_nil h2) h1) (by decide) (by decide) h1 hpl) fun σ H Q ⟨ads, G, env, R, h⟩ => by
  refine ⟨ads, G, env, R, Sat_mono (Sat_bind.mp h) (fun x e1 h1 ads1 G1 H1 v1 R1 s1 p1 => ?_) fun _ _ z => z⟩
  cases q : look e1 x with
  | none => simp only [q] at h1; exact h1.elim
  | some t =>
    simp only [q] at h1
    obtain ⟨b, hb, h2⟩ := Sat_ofO.mp (Sat_bind.mp h1)
    obtain ⟨z1, z2⟩ := isiF_some hb
    have w := look_rep R1 p1 q
    refine ⟨v1, v, _, u, b, rfl, hu, by rw [hK]; exact isi_ty R1.sub hk w z2, by rw [hK]; exact ht (kindOf t) b (fun k hk' => by rw [hk'] at z2; exact z2) z1, h2 ads1 G1 H1 _ R1 s1 (rep_bl (c := c) G1)⟩
/-- isinstance(e, (c1, c2, ..)) -/
theorem pt_isiT {us : List Value} {vs : List V} {x1 : Nat} {tp : Pos} {tcl : TA} (hK : X.K = c.K) (hk : ∀ k ∈ ks, IsiC c.K (c.C k)) (hu : Paired ClsV vs us) (hl : vs.length ≤ sizeLine) (ht : ∀ d b, (∀ k, d = .ins k → ks.contains k = true) → tb d = some b → PySem.W.kitAny c.K (tyVal c d) us = some b) (hg : Gl X "isinstance") (hm : X.mg "isinstance" = none) (he : PE X e (TEof c r W ea))
    (hcl : PA X cls (fun σ H Q => Q vs H))
    (h1 : starEach [e, .Tuple cls x1 tp] X.env = (false, eval e X.env) :: starEach [.Tuple cls x1 tp] X.env := by rfl) (h2 : starEach [.Tuple cls x1 tp] X.env = (false, eval (.Tuple cls x1 tp) X.env) :: starEach [] X.env := by rfl) (hpl : (backTo pos (starEach [.Tuple cls x1 tp] X.env)).any (·.1) = false := by rfl) :
    PE X (.Call (.Name "isinstance" p) [e, .Tuple cls x1 tp] [] pos) (TEof c r W (eIsi tb ks ea)) := PE.imp (pe_callB call_isiT hg hm boot_isinstance (pa_cons he (pa_cons (pe_tup hcl) pa_nil h2) h1) (by decide) (by decide) h1 hpl) fun σ H Q ⟨ads, G, env, R, h⟩ => by
  refine ⟨ads, G, env, R, Sat_mono (Sat_bind.mp h) (fun x e1 h1 ads1 G1 H1 v1 R1 s1 p1 => ⟨hl, fun tpa hn => ?_⟩) fun _ _ z => z⟩
  cases q : look e1 x with
  | none => simp only [q] at h1; exact h1.elim
  | some t =>
    simp only [q] at h1
    obtain ⟨b, hb, h2⟩ := Sat_ofO.mp (Sat_bind.mp h1)
    obtain ⟨z1, z2⟩ := isiF_some hb
    have w := look_rep R1 p1 q
    have st : Step [] H1 G1 (upd H1 tpa (.tup vs)) G1 := Step.allocO R1.sub hn
    have R2 := R1.next st
    have w2 := look_rep R2 p1 q
    refine ⟨v1, tpa, vs, _, us, b, rfl, upd_same, hu, by rw [hK]; exact isi_ty R2.sub hk w2 z2, by rw [hK]; exact ht (kindOf t) b (fun k hk' => by rw [hk'] at z2; exact z2) z1, h2 ads1 G1 _ _ R2 (s1.trans (Nxt.of st)) (rep_bl (c := c) G1)⟩
end
end TreeL
end
section
/-! TL11: lists unpacked, with a star at the end; match. -/
namespace TreeL
open PySem PySem.Spec PyProof.Rows L2

section
variable {prog : Program} {w : World} {A : Around} {E : Value → Shared → Prop} {s : Shared}
theorem draw_lst {it l : Addr} {items : Array Value} (hne : l ≠ it) : ∀ (n i : Nat) (s : Shared) (Q : List Value → Shared → Prop), s.heap.IsListIter it l i → s.heap.IsList l items → i + n ≤ items.size →
    (∀ h', h'.IsListIter it l (i + n) → Heap.SameBut it s.heap h' → Q ((items.toList.drop i).take n) { s with heap := h' }) → wpAny (model prog w) A (draw (.ref it) n) Q E s
  | 0, i, s, Q, hit, _, _, hQ => wpAny_pure (by simpa using hQ s.heap hit (Heap.SameBut.refl ..))
  | n + 1, i, s, Q, hit, ht, hle, hQ => by
    have hlt : i < items.size := by omega
    show wpAny _ _ (pyNext (.ref it) >>= _) Q E s
    refine wpAny_bind (wpAny_pyNext_list_item hit ht (x := items[i]) (by simp [hlt]) fun h1 hit1 hs1 => ?_)
    refine wpAny_bind (wpAny_holding (draw_lst hne n (i + 1) _ _ hit1 (ht.extBut hs1.extBut hne) (by omega) fun h2 hit2 hs2 => wpAny_pure ?_))
    have hd : items.toList.drop i = items[i] :: items.toList.drop (i + 1) := by simp [List.drop_eq_getElem_cons, hlt]
    have z := hQ h2 (by rw [show i + (n + 1) = i + 1 + n by omega]; exact hit2) (hs1.trans hs2)
    rw [hd, List.take_succ_cons] at z
    exact z
theorem iter_not_refused {l : Addr} {items : Array Value} (hl : s.heap.IsList l items) {α : Type} {f : Bool → Sem α} {Q : α → Shared → Prop} (h : wpAny (model prog w) A (f false) Q E s) : wpAny (model prog w) A (notIterableAtAll (.ref l) >>= f) Q E s := by
  refine wpAny_bind ?_
  unfold notIterableAtAll
  refine wpAny_bind (wpAny_specialOf hl.typeIs slot_list_iter.lookup ?_)
  exact wpAny_pure h
/-- n names, a list of n -/
theorem unpack_lst {l : Addr} {items : Array Value} {Q : List Value → Shared → Prop} (hh : A.handled = none) (hl : s.heap.IsList l items)
    (hQ : ∀ h', Heap.ExtBut s.heap.objs.size s.heap h' → Q items.toList { s with heap := h' }) : wpAny (model prog w) A (unpackItems (.ref l) items.size none) Q E s := by
  have hlt : l ≠ s.heap.objs.size := by obtain ⟨o, ho, _⟩ := hl; exact Nat.ne_of_lt (Heap.lt_size ho)
  unfold unpackItems
  refine iter_not_refused hl ?_
  simp only [Bool.false_eq_true, if_false]
  refine wpAny_bind (wpAny_holding (wpAny_pyIter_list hl ?_))
  refine wpAny_bind (wpAny_holding (draw_lst hlt items.size 0 _ _ ⟨_, Heap.get?_push_size _ rfl, rfl, rfl⟩ (hl.push _) (by omega) fun h1 hit1 hs1 => ?_))
  have hall : List.take items.size (List.drop 0 items.toList) = items.toList := by
    rw [List.drop_zero]; exact List.take_of_length_le (by simp)
  rw [hall, if_neg (by simp)]
  have hl1 : h1.IsList l items := (hl.push _).extBut hs1.extBut hlt
  refine wpAny_bind (wpAny_holding (wpAny_pyNext_list_end hh hit1 hl1 (by simp) fun h2 he2 => ?_))
  simp only [Option.isSome_none, Bool.false_eq_true, if_false]
  exact wpAny_pure (hQ h2 fun b o hb e => he2 b o hb (hs1.extBut b o hb (Heap.get?_push_of_some _ e)))
theorem walks_from {it l : Addr} (hh : A.handled = none) (hne : l ≠ it) (items : Array Value) (k : Nat) (hk : k ≤ items.size) :
    Walks prog w A it [it, l] [it] (items.size - k) (fun i v => items[k + i]? = some v) (fun i h => h.IsListIter it l (k + i) ∧ h.IsList l items) :=
  have W := Walks.list (prog := prog) (w := w) (A := A) hh it l hne items
  { sub := W.sub
    frame := fun i h h' st => W.frame (k + i) h h' st
    item := fun i s Q E hi st hQ => W.item (k + i) s Q E (by omega) st fun v h' tk p st' => hQ v h' tk p st'
    done := fun s Q E st hQ => W.done s Q E (by rw [show k + (items.size - k) = items.size by omega] at st; exact st) hQ
    self := fun i s Q E st hQ => W.self (k + i) s Q E st hQ }
theorem items_eq {items acc : Array Value} {k : Nat} (hk : k ≤ items.size) (h : ItemsOf (fun i v => items[k + i]? = some v) acc (items.size - k)) : acc.toList = items.toList.drop k := by
  apply List.ext_getElem?
  intro j
  rw [List.getElem?_drop]
  cases q : acc.toList[j]? with
  | none =>
    have l := List.getElem?_eq_none_iff.mp q
    rw [Array.length_toList, h.1] at l
    exact (List.getElem?_eq_none (by rw [Array.length_toList]; omega)).symm
  | some v =>
    have z := h.2 j v (by rw [← Array.getElem?_toList]; exact q)
    have z' : items[k + j]? = some v := z
    rw [← Array.getElem?_toList] at z'
    exact z'.symm
/-- k names and a starred one behind them -/
theorem unpack_str {l : Addr} {items : Array Value} {k : Nat} {Q : List Value → Shared → Prop} (hh : A.handled = none) (hl : s.heap.IsList l items) (hk : k ≤ items.size) (hz : items.size ≤ sizeLine)
    (hQ : ∀ s' : Shared, (∀ b o, s.heap.get? b = some o → s'.heap.get? b = some o) → s'.gens = s.gens → s'.drawn = s.drawn → s'.os = s.os → Q (items.toList.take k ++ [.ref s'.heap.objs.size]) { s' with heap := s'.heap.push { cls := .type "list", data := .seq (items.toList.drop k).toArray } }) :
    wpAny (model prog w) A (unpackItems (.ref l) (k + 1) (some k)) Q E s := by
  have hlt : l ≠ s.heap.objs.size := by obtain ⟨o, ho, _⟩ := hl; exact Nat.ne_of_lt (Heap.lt_size ho)
  unfold unpackItems
  refine iter_not_refused hl ?_
  simp only [Bool.false_eq_true, if_false]
  refine wpAny_bind (wpAny_holding (wpAny_pyIter_list hl ?_))
  refine wpAny_bind (wpAny_holding (draw_lst hlt k 0 _ _ ⟨_, Heap.get?_push_size _ rfl, rfl, rfl⟩ (hl.push _) (by omega) fun h1 hit1 hs1 => ?_))
  rw [List.drop_zero]
  have hlen : (List.take k items.toList).length = k := by rw [List.length_take, Array.length_toList]; omega
  rw [if_neg (by rw [hlen]; omega)]
  have hl1 : h1.IsList l items := (hl.push _).extBut hs1.extBut hlt
  have hitl : s.heap.objs.size < h1.objs.size := by obtain ⟨o, ho, _⟩ := hit1; exact Heap.lt_size ho
  have hll : l < h1.objs.size := by obtain ⟨o, ho, _⟩ := hl1; exact Heap.lt_size ho
  rw [Nat.zero_add] at hit1
  have W := (walks_from (prog := prog) (w := w) (A := A.in1) (show A.in1.handled = none from hh) hlt items k hk).toS
  refine wpAny_bind (wpAny_holding (wpAny_collect_iter (.inr (.inr (.inl rfl))) W (fun i s st => st.1.typeIs) (show _ ∧ _ from ⟨hit1, hl1⟩) (fun b hb => ?_) (by simp) (fun s' acc mv it => ?_) (by omega)))
  · simp at hb
    rcases hb with rfl | rfl
    · exact hitl
    · exact hll
  · rw [items_eq hk it]
    have e0 : k + 1 - 1 - k = 0 := by omega
    simp only [e0, Nat.not_lt_zero, if_false, Nat.sub_zero, List.take_length, List.drop_length, List.append_nil]
    refine wpAny_bind (m := newList _) (wpAny_newObj_type ?_ (by show (items.toList.drop k).toArray.size ≤ sizeLine; rw [List.size_toArray, List.length_drop, Array.length_toList]; omega))
    refine wpAny_pure (hQ s' (fun b o e => ?_) mv.gens mv.drawn mv.os)
    have ne : b ≠ s.heap.objs.size := Nat.ne_of_lt (Heap.lt_size e)
    exact mv.heap b o (by simpa using ne) (hs1.extBut b o ne (Heap.get?_push_of_some _ e))
end

/-! ### targets -/
@[simp] def gTpL (n : Nat) (gs : List PV → En → Option En) : Tg := fun t env => match t with
  | .tup ts => if ts.length = n then gs ts env else none
  | .lst ts => if ts.length = n then gs ts env else none
  | _ => none
/-- k names, then a starred one: slots is, j -/
@[simp] def gStr (k : Nat) (gs : List PV → En → Option En) : Tg := fun t env => match t with
  | .lst ts => if k ≤ ts.length then gs (ts.take k ++ [.lst (ts.drop k)]) env else none
  | _ => none
section
variable {X : Cx} {c : TC} {r : Ref} {W : WX} {es : List Expr} {gs : List PV → En → Option En} {pos : Pos} {ws : List Nat}
theorem tg_tupL {k n : Nat} (hK : X.K = c.K) (hc : X.calm = true) (h : PGs X es (TGsof c r ws gs)) (hn : (assignEach es X.env).length = n := by rfl) (hst : (assignEach es X.env).findIdx? (·.1) = none := by rfl) : PG X (.Tuple es k pos) (TGof c r ws (gTpL n gs)) := by
  have h0 := (tg_tup hK hc h hn hst : PG X (.Tuple es k pos) (TGof c r ws (gTp n gs)))
  refine ⟨fun pins st σ H v u Q I rv ⟨ads, G, env, t, env', R, rp, e, kq⟩ => ?_⟩
  cases t with
  | tup ts => exact h0.run pins st σ H v u Q I rv ⟨ads, G, env, .tup ts, env', R, rp, e, kq⟩
  | lst ts =>
    have e' : (if ts.length = n then gs ts env else none) = some env' := e
    by_cases l : ts.length = n
    · rw [if_pos l] at e'
      simp only [Rep] at rp
      obtain ⟨a, vs, rfl, hx, rr⟩ := rp
      cases rv
      obtain ⟨its, rvs, hl, hz⟩ := I.list (.inl (.inl (R.sub _ _ hx)))
      rw [assign_Tuple]
      refine wpAny_bind (wpAny_standAt ?_)
      unfold unpack
      have e1 : (assignEach es X.env).length = its.toArray.size := by rw [hn, ← l, ← rr.length, rvs.length, List.size_toArray]
      rw [e1, hst]
      refine wpAny_bind (wpAny_holding (unpack_lst (I.ok.hd hc) hl.isList fun h' hx' => ?_))
      have I1 : Inv X pins σ H { st with heap := h' } := I.kept (t' := st.toks) fun b o e => hx' b o (Nat.ne_of_lt (Heap.lt_size e)) e
      exact h.run pins _ σ H vs _ Q I1 rvs ⟨ads, G, env, ts, env', R, rr, e', kq⟩
    · rw [if_neg l] at e'; cases e'
  | _ => cases e
/-- a target that may lay new things -/
def TG2of (c : TC) (r : Ref) (ag : Tg) : TG := fun v σ H Q => ∃ ads G env t env', RS c r ads G H σ env ∧ Rep c G t v ∧ ag t env = some env' ∧ ∀ ads' G' H' σ', RS c r ads' G' H' σ' env' → Sub G G' → Q σ' H'
theorem ts_asg2 {tg e : Expr} {ea : EvE} {g : Tg} (he : PE X e (TEof c r W ea)) (hg : PG X tg (TG2of c r g)) (hs : swapsWithSole [tg] e pos.line X.env = pure false := by rfl) (hw : swappedStores [tg] e X.env = pure none := by rfl)
    (h1 : (assignEach [tg] X.env).map (·.2) = [assign tg X.env] := by rfl) : PS X (.Assign [tg] e pos) (TSof c r W (sAsg ea g)) := PS.imp (ps_asg he hg hs hw h1) fun D σ H ⟨ads, G, env, R, h⟩ => by
  refine ⟨ads, G, env, R, Sat_mono (RE.so_Sat.mp h) (fun x e1 h1 ads1 G1 H1 v1 R1 s1 p1 => ?_) fun x e z => XC.of z⟩
  cases x with
  | sl i => exact h1.elim
  | tr t =>
    cases q : g t e1 with
    | none => simp only [q] at h1; exact h1.elim
    | some e2 =>
      simp only [q] at h1
      exact ⟨ads1, G1, e1, t, e2, R1, p1, q, fun ads' G' H' σ' R' s' => h1 ads' G' H' σ' R' (s1.sub.trans s')⟩
theorem tg_star {k kk : Nat} (hc : X.calm = true) (h : PGs X es (TGsof c r ws gs)) (es0 : List Expr) (hn : (assignEach es0 X.env).length = k + 1 := by rfl) (hst : (assignEach es0 X.env).findIdx? (·.1) = some k := by rfl) (hm : (assignEach es0 X.env).map (·.2) = (assignEach es X.env).map (·.2) := by rfl) :
    PG X (.Tuple es0 kk pos) (TG2of c r (gStr k gs)) := by
  refine ⟨fun pins st σ H v u Q I rv ⟨ads, G, env, t, env', R, rp, e, kq⟩ => ?_⟩
  cases t with
  | lst ts =>
    have e' : (if k ≤ ts.length then gs (ts.take k ++ [.lst (ts.drop k)]) env else none) = some env' := e
    by_cases l : k ≤ ts.length
    · rw [if_pos l] at e'
      simp only [Rep] at rp
      obtain ⟨a, vs, rfl, hx, rr⟩ := rp
      cases rv
      obtain ⟨its, rvs, hl, hz⟩ := I.list (.inl (.inl (R.sub _ _ hx)))
      rw [assign_Tuple]
      refine wpAny_bind (wpAny_standAt ?_)
      unfold unpack
      rw [hn, hst, hm]
      refine wpAny_bind (wpAny_holding (unpack_str (I.ok.hd hc) hl.isList (by rw [List.size_toArray, ← rvs.length, rr.length]; exact l) (by rw [List.size_toArray, ← rvs.length]; exact hz) fun s' k1 k2 k3 k4 => ?_))
      obtain ⟨hh, g, d, tk, os⟩ := s'
      cases k2; cases k3; cases k4
      have I1 : Inv X pins σ H { st with heap := hh, toks := tk } := I.kept (t' := tk) k1
      have hD : H hh.objs.size = none := I1.hok.fresh (Nat.le_refl _)
      have I2 : Inv X pins σ (upd H hh.objs.size (.lst (vs.drop k))) { st with heap := hh.push { cls := .type "list", data := .seq (its.drop k).toArray }, toks := tk } :=
        I1.laid (t' := tk) (fun b ob q => Heap.get?_push_of_some _ q) (Nat.le_refl _) ⟨by rw [List.length_drop]; exact Nat.le_trans (Nat.sub_le _ _) hz, its.drop k, 0, rvs.drop k, Heap.get?_push_size _ rfl⟩
      have stp := Step.alloc (o := .lst (vs.drop k)) R.sub hD
      have R2 := R.next stp
      refine h.run pins _ σ _ (vs.take k ++ [.ref hh.objs.size]) _ Q I2 ((rvs.take k).append (.cons (show L2.RelV (.ref hh.objs.size) (.ref hh.objs.size) from rfl) .nil)) ⟨ads, _, env, _, env', R2, ?_, e', fun ads' σ' R' l1 l2 l3 l4 => ?_⟩
      · refine ((rr.take k).mono stp.sub).append (RepL.one ?_)
        simp only [Rep]
        exact ⟨_, _, rfl, upd_same, (rr.drop k).mono stp.sub⟩
      · exact kq ads' _ _ σ' R' stp.sub
    · rw [if_neg l] at e'; cases e'
  | _ => cases e
end

/-! ### match -/
/-- patterns that are names -/
inductive CapP : List Pattern → List Str → Prop where
  | nil : CapP [] []
  | cons {x : Str} {p : Pos} {ps : List Pattern} {xs : List Str} (h : CapP ps xs) : CapP (.MatchAs none (some x) p :: ps) (x :: xs)
theorem CapP.length : ∀ {ps : List Pattern} {xs : List Str}, CapP ps xs → ps.length = xs.length
  | _, _, .nil => rfl
  | _, _, .cons h => by simp [CapP.length h]
theorem CapP.noStar : ∀ {ps : List Pattern} {xs : List Str}, CapP ps xs → ps.findIdx? (·.isStar) = none
  | _, _, .nil => rfl
  | _, _, .cons h => by
    rw [List.findIdx?_cons]
    show (if (Pattern.MatchAs none (some _) _).isStar = true then some 0 else _) = none
    rw [if_neg (by simp [Pattern.isStar]), CapP.noStar h]
    rfl
/-- .. and a starred one behind them -/
def CapS (ps : List Pattern) (xs : List Str) (y : Str) (k : Nat) : Prop := ∃ ps0 p, CapP ps0 xs ∧ ps = ps0 ++ [.MatchStar (some y) p] ∧ xs.length = k
section
variable {M : Model} {A : Around} {E : Value → Shared → Prop} {s : Shared} {env : Env}
theorem each_caps : ∀ {ps : List Pattern} {xs : List Str} {us : List Value} {Q : Option (List (Str × Value)) → Shared → Prop}, CapP ps xs → us.length = xs.length → Q (some (xs.zip us)) s → wpAny M A (matchEach ps env us) Q E s
  | _, _, [], _, .nil, _, h => wpAny_matchEach_nil h
  | _, _, u :: us, _, .cons c, l, h => wpAny_matchEach_cons (wpAny_matchPattern_Capture (each_caps c (by simpa using l) h))
theorem each_star {y : Str} {p : Pos} {d : Value} : ∀ {ps : List Pattern} {xs : List Str} {us : List Value} {Q : Option (List (Str × Value)) → Shared → Prop}, CapP ps xs → us.length = xs.length → Q (some (xs.zip us ++ [(y, d)])) s → wpAny M A (matchEach (ps ++ [.MatchStar (some y) p]) env (us ++ [d])) Q E s
  | _, _, [], Q, .nil, _, h => by
    show wpAny M A (do
      match ← holding [d] (matchEach [] env []) with
      | none => pure none
      | some bs => pure (some ((Option.map (·, d) (some y)).toList ++ bs))) Q E s
    exact wpAny_bind (wpAny_holding (wpAny_matchEach_nil (wpAny_pure h)))
  | _, _, u :: us, _, .cons c, l, h => wpAny_matchEach_cons (wpAny_matchPattern_Capture (each_star c (by simpa using l) h))
end
abbrev EvC := PV → EvS
def setsE : List Nat → List PV → En → En
  | i :: is, t :: ts, env => setsE is ts (env.set i (some (.t t)))
  | _, _, env => env
def seqP : PV → Option (List PV)
  | .lst ts => some ts
  | .tup ts => some ts
  | _ => none
def cNil : EvC := fun _ env => .nx env
def cSeq (is : List Nat) (gd : EvT) (body : EvS) (rest : EvC) : EvC := fun t env => match seqP t with
  | some ts => if ts.length = is.length then (gd (setsE is ts env)).so fun b e => if b then body e else rest t e else rest t env
  | none => .bad
def cStar (k : Nat) (is : List Nat) (gd : EvT) (body : EvS) (rest : EvC) : EvC := fun t env => match t with
  | .lst ts => if k ≤ ts.length then (gd (setsE is (ts.take k ++ [.lst (ts.drop k)]) env)).so fun b e => if b then body e else rest t e else rest t env
  | _ => .bad
def sMatch (ea : EvE) (cs : EvC) : EvS := fun env => (ea env).so fun x e => match x with
  | .tr t => cs t e
  | .sl _ => .bad
/-- the cases, for a subject that stands for t -/
structure PMs (X : Cx) (c : TC) (r : Ref) (W : WX) (cases : List MatchCase) (cs : EvC) : Prop where
  run : ∀ (first : Bool) (pins : List (Addr × Obj)) (st : Shared) (σ : L2.St) (H : Hp) (D : Ends) (v : V) (u : Value) (t : PV) (ads : Nat → List Addr) (G : Hp) (env : En), Inv X pins σ H st → RelV v u → RS c r ads G H σ env → Rep c G t v → (cs t env).Sat (Kof c r W G D) →
    wpAny (model X.prog X.w) X.A (matchCases cases X.env u first) (SP X pins D) X.xe st
section
variable {X : Cx} {c : TC} {r : Ref} {W : WX} {e : Expr} {ea : EvE} {cases rest : List MatchCase} {cs : EvC} {pos p : Pos} {is : List Nat} {xs : List Str} {ps : List Pattern} {body : List Stmt} {gd : EvT} {ys : EvS}
theorem tm_nil : PMs X c r W [] cNil := ⟨fun first pins st σ H D v u t ads G env I rv R rp h => wpAny_matchCases_nil ⟨σ, H, I, h ads G H σ R (Sub.refl _)⟩⟩
theorem ts_match (he : PE X e (TEof c r W ea)) (hm : PMs X c r W cases cs) : PS X (.Match e cases pos) (TSof c r W (sMatch ea cs)) := ⟨fun pins st σ H D I ⟨ads, G, env, R, h⟩ => by
  have h1 : TEof c r W ea σ H (fun v H1 => ∃ t ads1 G1 env1, RS c r ads1 G1 H1 σ env1 ∧ Rep c G1 t v ∧ (cs t env1).Sat (Kof c r W G1 D)) :=
    ⟨ads, G, env, R, Sat_mono (RE.so_Sat.mp h) (fun x e1 h1 ads1 G1 H1 v1 R1 s1 p1 => by
      cases x with
      | sl i => exact h1.elim
      | tr t => exact ⟨t, ads1, G1, e1, R1, p1, Kof.weak s1.sub h1⟩) fun x e z => XC.of z⟩
  exact wpAny_Match (thn (he.run pins st σ H _ I h1) fun u s1 ⟨v, H1, I1, rv, t, ads1, G1, env1, R1, rp, q⟩ => hm.run true pins s1 σ H1 D v u t ads1 G1 env1 I1 rv R1 rp q)⟩
/-- the names are bound, one after another -/
theorem bind_caps (hN : X.N.Nodup) : ∀ {is : List Nat} {xs : List Str} {us : List Value} {vs : List V} {ts : List PV} {pins : List (Addr × Obj)} {st : Shared} {σ : L2.St} {H : Hp} {ads : Nat → List Addr} {G : Hp} {env : En} {Q : Unit → Shared → Prop},
    (∀ q ∈ is.zip xs, X.N[q.1]? = some q.2 ∧ X.env.scope.names.lookup q.2 = some .local ∧ (r.pins.map Prod.fst).contains q.1 = false) → is.length = xs.length → us.length = xs.length → Inv X pins σ H st → Vals vs us → RS c r ads G H σ env → RepL c G ts vs →
    (∀ s' σ' ads', Inv X pins σ' H s' → RS c r ads' G H σ' (setsE is ts env) → Q () s') → wpAny (model X.prog X.w) X.A (assignInOrder ((xs.zip us).map fun (n, _) => bindName X.env n) ((xs.zip us).map (·.2))) Q X.xe st
  | [], [], [], _, _, _, _, _, _, _, _, _, _, _, _, _, I, rv, R, rr, h => by
    cases rv
    exact wpAny_assignInOrder_none (h _ _ _ I (by unfold setsE; exact R))
  | i :: is, x :: xs, u :: us, _, ts, _, _, _, _, _, _, _, _, hq, l1, l2, I, rv, R, rr, h => by
    cases rv with
    | cons ru rus =>
      rename_i v vs
      cases ts with
      | nil => cases rr
      | cons t ts =>
        obtain ⟨v', r', e, rt, rts⟩ := rr
        cases e
        obtain ⟨q1, q2, q3⟩ := hq (i, x) List.mem_cons_self
        refine wpAny_assignInOrder_more (wpAny_bindName (store_ok I hN q1 (.inl q2) ru (fun s' I' => ?_) (.inr q2)))
        exact bind_caps hN (fun q hq' => hq q (List.mem_cons_of_mem _ hq')) (by simpa using l1) (by simpa using l2) I' rus (R.set rt q3) rts h
  | [], _ :: _, _, _, _, _, _, _, _, _, _, _, _, _, l, _, _, _, _, _, _ => by simp at l
  | _ :: _, [], _, _, _, _, _, _, _, _, _, _, _, _, l, _, _, _, _, _, _ => by simp at l
  | [], [], _ :: _, _, _, _, _, _, _, _, _, _, _, _, _, l, _, _, _, _, _ => by simp at l
  | _ :: _, _ :: _, [], _, _, _, _, _, _, _, _, _, _, _, _, l, _, _, _, _, _ => by simp at l
def GdOk (X : Cx) (c : TC) (r : Ref) (W : WX) : Option Expr → EvT → Prop
  | none, gd => gd = fun env => RE.ok true env
  | some g, gd => PT X g (TTof c r W gd)
/-- what is wanted behind the binding -/
def AB (X : Cx) (pins : List (Addr × Obj)) (D : Ends) (guard : Option Expr) (body : List Stmt) (rest : List MatchCase) (u : Value) (s2 : Shared) : Prop := match guard with
  | none => wpAny (model X.prog X.w) X.A (execs body X.env) (SP X pins D) X.xe s2
  | some g => wpAny (model X.prog X.w) X.A (isTrue g X.env (eval g X.env)) (fun ok s3 => if ok then wpAny (model X.prog X.w) X.A (execs body X.env) (SP X pins D) X.xe s3 else wpAny (model X.prog X.w) X.A (matchCases rest X.env u false) (SP X pins D) X.xe s3) X.xe s2
/-- behind the binding: the guard, the body, or the other cases -/
theorem case_go {guard : Option Expr} (hgd : GdOk X c r W guard gd) (hb : PSs X body (TSof c r W ys)) (hr : PMs X c r W rest cs)
    {pins : List (Addr × Obj)} {st : Shared} {σ : L2.St} {H : Hp} {D : Ends} {v : V} {u : Value} {t : PV} {ads : Nat → List Addr} {G : Hp} {env : En} (I : Inv X pins σ H st) (rv : RelV v u) (R : RS c r ads G H σ env) (rp : Rep c G t v)
    (h : ((gd env).so fun b e => if b then ys e else cs t e).Sat (Kof c r W G D)) : AB X pins D guard body rest u st := by
  cases guard with
  | none =>
    have hgd' : gd = fun env => RE.ok true env := hgd
    rw [hgd'] at h
    exact hb.run pins st σ H D I ⟨ads, G, env, R, h⟩
  | some g =>
    have hgd' : PT X g (TTof c r W gd) := hgd
    have h1 : TTof c r W gd σ H (fun b H1 => ∃ ads1 G1 env1, RS c r ads1 G1 H1 σ env1 ∧ Rep c G1 t v ∧ ((if b then ys env1 else cs t env1)).Sat (Kof c r W G1 D)) :=
      ⟨ads, G, env, R, Sat_mono (RE.so_Sat.mp h) (fun b e1 h1 ads1 G1 H1 R1 s1 => ⟨ads1, G1, e1, R1, rp.mono s1.sub, Kof.weak s1.sub h1⟩) fun x e z => XC.of z⟩
    refine thn (hgd'.run pins st σ H _ I h1) fun b s1 ⟨H1, I1, ads1, G1, env1, R1, rp1, q⟩ => ?_
    cases b with
    | true =>
      rw [if_pos rfl] at q ⊢
      exact hb.run pins s1 σ H1 D I1 ⟨ads1, G1, env1, R1, q⟩
    | false =>
      rw [if_neg Bool.false_ne_true] at q ⊢
      exact hr.run false pins s1 σ H1 D v u t ads1 G1 env1 I1 rv R1 rp1 q
/-- a sequence that fits -/
theorem caps_go {guard : Option Expr} (hN : X.N.Nodup) (hcap : CapP ps xs) (hl : is.length = xs.length) (hq : ∀ q ∈ is.zip xs, X.N[q.1]? = some q.2 ∧ X.env.scope.names.lookup q.2 = some .local ∧ (r.pins.map Prod.fst).contains q.1 = false) (hgd : GdOk X c r W guard gd) (hb : PSs X body (TSof c r W ys)) (hr : PMs X c r W rest cs)
    {pins : List (Addr × Obj)} {st : Shared} {σ : L2.St} {H : Hp} {D : Ends} {v : V} {u : Value} {t : PV} {ads : Nat → List Addr} {G : Hp} {env : En} {ts : List PV} {vs : List V} {us : List Value} (I : Inv X pins σ H st) (rv : RelV v u) (R : RS c r ads G H σ env) (rp : Rep c G t v)
    (hts : ts.length = is.length) (rr : RepL c G ts vs) (rvs : Vals vs us) (h : ((gd (setsE is ts env)).so fun b e => if b then ys e else cs t e).Sat (Kof c r W G D)) {KK : Option (List (Str × Value)) → Shared → Prop}
    (hk : ∀ s1, wpAny (model X.prog X.w) X.A (assignInOrder ((xs.zip us).map fun (n, _) => bindName X.env n) ((xs.zip us).map (·.2))) (fun _ s2 => AB X pins D guard body rest u s2) X.xe s1 → KK (some (xs.zip us)) s1) :
    wpAny (model X.prog X.w) X.A (matchEach ps X.env us) KK X.xe st := by
  have lu : us.length = xs.length := by rw [← rvs.length, rr.length, hts, hl]
  exact each_caps hcap lu (hk _ (bind_caps hN hq hl lu I rvs R rr fun s' σ' ads' I' R' => case_go hgd hb hr I' rv R' rp h))
theorem tm_seq {guard : Option Expr} (hK : X.K = c.K) (hc : X.calm = true) (hN : X.N.Nodup) (hcap : CapP ps xs) (hl : is.length = xs.length) (hne : (ps.all fun p => p.isWildcard || (p.isStar && p.names.isEmpty)) = false) (hq : ∀ q ∈ is.zip xs, X.N[q.1]? = some q.2 ∧ X.env.scope.names.lookup q.2 = some .local ∧ (r.pins.map Prod.fst).contains q.1 = false)
    (hgd : GdOk X c r W guard gd) (hb : PSs X body (TSof c r W ys)) (hr : PMs X c r W rest cs) : PMs X c r W (⟨.MatchSequence ps p, guard, body⟩ :: rest) (cSeq is gd ys cs) := ⟨fun first pins st σ H D v u t ads G env I rv R rp h => by
  refine wpAny_matchCases_cons ?_
  have hpl := hcap.length
  cases t with
  | lst ts =>
    simp only [Rep] at rp
    have rp0 : Rep c G (.lst ts) v := by simp only [Rep]; exact rp
    obtain ⟨a, vs, rfl, hx, rr⟩ := rp
    cases rv
    obtain ⟨its, rvs, hli, hz⟩ := I.list (.inl (.inl (R.sub _ _ hx)))
    have hsz : its.toArray.size = ts.length := by rw [List.size_toArray, ← rvs.length, rr.length]
    have hfit : (its.toArray.size : Int) < 2 ^ 63 := by have := line63; rw [List.size_toArray, ← rvs.length]; omega
    have I1 : Inv X pins σ H { st with toks := st.toks + 1 + 1 } := I.tok _
    have h' : (if ts.length = is.length then (gd (setsE is ts env)).so fun b e => if b then ys e else cs (.lst ts) e else cs (.lst ts) env).Sat (Kof c r W G D) := h
    by_cases l : ts.length = is.length
    · rw [if_pos l] at h'
      refine matchSeq_list_hit hli.isList hfit (by rw [hsz, l, hl, hpl]) ?_ hcap.noStar hne
      have e1 : ps.length = its.toArray.size := by rw [hsz, l, hl, hpl]
      rw [e1]
      refine unpack_lst (I.ok.hd hc) (by exact hli.isList) fun h2 hx2 => ?_
      have I2 : Inv X pins σ H { st with heap := h2, toks := st.toks + 1 + 1 } := I1.kept (t' := st.toks + 1 + 1) fun b o e => hx2 b o (Nat.ne_of_lt (Heap.lt_size e)) e
      exact caps_go hN hcap hl hq hgd hb hr I2 (show RelV (.ref a) (.ref a) from rfl) R rp0 l rr rvs h' fun s1 q => thn q fun _ s2 hz => by cases guard <;> exact hz
    · rw [if_neg l] at h'
      exact matchSeq_list_miss hli.isList hfit (by rw [hsz, hpl, ← hl]; exact l) (hr.run false pins _ σ H D _ _ (.lst ts) ads G env I1 (show RelV (.ref a) (.ref a) from rfl) R rp0 h') hcap.noStar hne
  | tup ts =>
    simp only [Rep] at rp
    have rp0 : Rep c G (.tup ts) v := by simp only [Rep]; exact rp
    obtain ⟨a, vs, rfl, hx, rr⟩ := rp
    cases rv
    obtain ⟨its, rvs, hti, hz⟩ := I.tuple (by rw [hK]; exact R.sub.sqT hx)
    have hsz : its.toArray.size = ts.length := by rw [List.size_toArray, ← rvs.length, rr.length]
    have hfit : (its.toArray.size : Int) < 2 ^ 63 := by have := line63; rw [List.size_toArray, ← rvs.length]; omega
    have I1 : Inv X pins σ H { st with toks := st.toks + 1 + 1 } := I.tok _
    have h' : (if ts.length = is.length then (gd (setsE is ts env)).so fun b e => if b then ys e else cs (.tup ts) e else cs (.tup ts) env).Sat (Kof c r W G D) := h
    by_cases l : ts.length = is.length
    · rw [if_pos l] at h'
      refine matchSeq_tuple_hit hti hfit (by rw [hsz, l, hl, hpl]) ?_ hcap.noStar hne
      have e1 : ps.length = its.toArray.size := by rw [hsz, l, hl, hpl]
      rw [e1]
      refine unpackItems_tuple (I.ok.hd hc) hti fun h2 hx2 => ?_
      have I2 : Inv X pins σ H { st with heap := h2, toks := st.toks + 1 + 1 } := I1.kept (t' := st.toks + 1 + 1) fun b o e => hx2 b o (Nat.ne_of_lt (Heap.lt_size e)) e
      exact caps_go hN hcap hl hq hgd hb hr I2 (show RelV (.ref a) (.ref a) from rfl) R rp0 l rr rvs h' fun s1 q => thn q fun _ s2 hz => by cases guard <;> exact hz
    · rw [if_neg l] at h'
      exact matchSeq_tuple_miss hti hfit (by rw [hsz, hpl, ← hl]; exact l) (hr.run false pins _ σ H D _ _ (.tup ts) ads G env I1 (show RelV (.ref a) (.ref a) from rfl) R rp0 h') hcap.noStar hne
  | _ => exact h.elim⟩
end
end TreeL
end
section
/-! TL12: the box of the draws: a dict with a list of ints under "great" and ints under other keys. -/
namespace TreeL
open PySem PySem.Spec PyProof.Rows L2

abbrev GREAT : Str := ("great" : Str)
def bxK (q : Addr) (fs : List (Str × Int)) : List (Key × V) := (Sum.inr GREAT, V.ref q) :: fs.map fun f => (Sum.inr f.1, V.int f.2)
def updI (k : Str) (n : Int) (fs : List (Str × Int)) : List (Str × Int) := fs.map fun f => if f.1 = k then (f.1, n) else f
theorem bx_great {q : Addr} {fs : List (Str × Int)} : valV (bxK q fs) (Sum.inr GREAT) = some (.ref q) := valV_pos rfl
theorem bx_get {q : Addr} {k : Str} {n : Int} (hk : k ≠ GREAT) : ∀ {fs : List (Str × Int)}, fs.lookup k = some n → valV (bxK q fs) (Sum.inr k) = some (.int n) := fun {fs} h => by
  unfold bxK
  rw [valV_neg (by simpa using Ne.symm hk)]
  induction fs with
  | nil => simp at h
  | cons f fs ih =>
    obtain ⟨g, m⟩ := f
    rw [List.lookup_cons] at h
    by_cases e : g = k
    · subst e
      simp at h
      subst h
      exact valV_pos rfl
    · rw [List.map_cons, valV_neg (by simpa using e)]
      have e' : (k == g) = false := by simpa using Ne.symm e
      rw [e'] at h
      exact ih h
theorem bx_put {q : Addr} {k : Str} {n m : Int} (hk : k ≠ GREAT) {fs : List (Str × Int)} (h : fs.lookup k = some m) : putK (bxK q fs) (Sum.inr k) (.int n) = bxK q (updI k n fs) := by
  have any : ((bxK q fs).any fun kv => decide (kv.1 = (Sum.inr k : Key))) = true := by
    rw [valV_any, bx_get hk h]
    rfl
  unfold putK
  rw [if_pos any]
  unfold bxK updI
  rw [List.map_cons, if_neg (by simpa using Ne.symm hk), List.map_map, List.map_map]
  congr 1
  apply List.map_congr_left
  intro f _
  show (if (Sum.inr f.1 : Key) = Sum.inr k then _ else _) = ((Sum.inr (if f.1 = k then (f.1, n) else f).1 : Key), V.int (if f.1 = k then (f.1, n) else f).2)
  by_cases e : f.1 = k
  · rw [if_pos (by rw [e]), if_pos e]
  · rw [if_neg (by simpa using e), if_neg e]
theorem bx_len {q : Addr} {fs : List (Str × Int)} : (bxK q fs).length = fs.length + 1 := by simp [bxK]
theorem boxD_at {c : TC} {G H : Hp} {p : Addr} {ad : List Addr} {great : List Int} {fs : List (Str × Int)} (h : OwRep c G H p ad (.boxD great fs)) : ∃ q, ad = [p, q] ∧ p ≠ q ∧ H q = some (.lst (great.map V.int)) ∧ H p = some (.dK (bxK q fs)) := h

/-! ### reading, writing -/
def eBget (i : Nat) (k : Str) : EvE := fun env => match env[i]? with
  | some (some (.ow (.boxD _ fs))) => if k = GREAT then .bad else (ofO (fs.lookup k) env).bind fun n e => .ok (.tr (.int n)) e
  | _ => .bad
def eBlen (i : Nat) : EvE := fun env => match env[i]? with
  | some (some (.ow (.boxD great _))) => .ok (.tr (.int great.length)) env
  | _ => .bad
def eBpop (i : Nat) : EvE := fun env => match env[i]? with
  | some (some (.ow (.boxD great fs))) => (ofO great[great.length - 1]? env).bind fun n e => .ok (.tr (.int n)) (e.set i (some (.ow (.boxD great.dropLast fs))))
  | _ => .bad
def sBput (i : Nat) (k : Str) (ea : EvE) : EvS := fun env => (ea env).so fun x e => match look e x, e[i]? with
  | some (.int n), some (some (.ow (.boxD great fs))) => if k ≠ GREAT ∧ (fs.lookup k).isSome ∧ fs.length < 1000 then .nx (e.set i (some (.ow (.boxD great (updI k n fs))))) else .bad
  | _, _ => .bad
section
variable {X : Cx} {c : TC} {r : Ref} {W : WX} {o e : Expr} {ea : EvE} {i : Nat} {k : Str} {pos pos' p p2 apos cpos : Pos} {j : Nat}
theorem box_slot {ads : Nat → List Addr} {G H : Hp} {σ : L2.St} {env : En} {great : List Int} {fs : List (Str × Int)} (R : RS c r ads G H σ env) (q : env[i]? = some (some (.ow (.boxD great fs)))) :
    ∃ a b, σ[i]? = some (some (.ref a)) ∧ ads i = [a, b] ∧ a ≠ b ∧ H b = some (.lst (great.map V.int)) ∧ H a = some (.dK (bxK b fs)) := by
  obtain ⟨a, e, ow⟩ := slot_own R q
  obtain ⟨b, h1, h2, h3, h4⟩ := boxD_at ow
  exact ⟨a, b, e, h1, h2, h3, h4⟩
theorem pt_bget (hu : X.A.units + 1 < cLine) (ho : PE X o (tVar i)) : PE X (.Subscript o (.Constant (.str k) j p) pos) (TEof c r W (eBget i k)) := PE.imp (pe_dget hu ho (pe_str (x := k)) fun _ _ => rfl) fun σ H Q ⟨ads, G, env, R, h⟩ => by
  simp only [eBget] at h
  cases q : env[i]? with
  | none => simp only [q] at h; exact h.elim
  | some u =>
    cases u with
    | none => simp only [q] at h; exact h.elim
    | some u =>
      cases u with
      | t _ => simp only [q] at h; exact h.elim
      | ow u =>
        cases u with
        | boxD great fs =>
          simp only [q] at h
          by_cases hk : k = GREAT
          · rw [if_pos hk] at h; exact h.elim
          · rw [if_neg hk] at h
            obtain ⟨n, hn, h2⟩ := Sat_ofO.mp (Sat_bind.mp h)
            obtain ⟨a, b, e1, e2, e3, e4, e5⟩ := box_slot R q
            exact ⟨.ref a, e1, a, .int n, rfl, .inl ⟨_, .inr k, .inl e5, rfl, (bx_get hk hn).symm⟩, h2 ads G H _ R (Nxt.refl _ _ _) (rep_int (c := c) G)⟩
        | _ => simp only [q] at h; exact h.elim
theorem pt_blen (hu : X.A.units + 1 < cLine) (hg : Gl X "len") (hm : X.mg "len" = none) (ho : PE X o (tVar i)) (h1 : starEach [.Subscript o (.Constant (.str GREAT) j p) pos'] X.env = (false, eval (.Subscript o (.Constant (.str GREAT) j p) pos') X.env) :: starEach [] X.env := by rfl) (hpl : (backTo pos (starEach ([] : List Expr) X.env)).any (·.1) = false := by rfl) :
    PE X (.Call (.Name "len" p2) [.Subscript o (.Constant (.str GREAT) j p) pos'] [] pos) (TEof c r W (eBlen i)) :=
  PE.imp (pe_callB call_len_seq hg hm boot_len (pa_cons (pe_dget hu ho (pe_str (x := GREAT)) fun _ _ => rfl) pa_nil h1) (by decide) (by decide) h1 hpl) fun σ H Q ⟨ads, G, env, R, h⟩ => by
    simp only [eBlen] at h
    cases q : env[i]? with
    | none => simp only [q] at h; exact h.elim
    | some u =>
      cases u with
      | none => simp only [q] at h; exact h.elim
      | some u =>
        cases u with
        | t _ => simp only [q] at h; exact h.elim
        | ow u =>
          cases u with
          | boxD great fs =>
            simp only [q] at h
            obtain ⟨a, b, e1, e2, e3, e4, e5⟩ := box_slot R q
            refine ⟨.ref a, e1, a, .ref b, rfl, .inl ⟨_, .inr GREAT, .inl e5, rfl, bx_great.symm⟩, b, _, rfl, .inl (.inl (.inl e4)), ?_⟩
            rw [List.length_map]
            exact h ads G H _ R (Nxt.refl _ _ _) (rep_int (c := c) G)
          | _ => simp only [q] at h; exact h.elim
theorem RS.bwrite {ads : Nat → List Addr} {G H : Hp} {σ : L2.St} {env : En} {a b : Addr} {great great' : List Int} {fs fs' : List (Str × Int)} (R : RS c r ads G H σ env) (e1 : σ[i]? = some (some (.ref a))) (e2 : ads i = [a, b]) (e3 : a ≠ b) (e4 : H b = some (.lst (great.map V.int))) (e5 : H a = some (.dK (bxK b fs))) :
    RS c r ads G (upd H b (.lst (great'.map V.int))) σ (env.set i (some (.ow (.boxD great' fs)))) ∧ RS c r ads G (upd H a (.dK (bxK b fs'))) σ (env.set i (some (.ow (.boxD great fs')))) := by
  constructor
  · refine R.write e1 (by rw [e2]; simp) e4 ⟨b, e2, e3, upd_same, ?_⟩
    rw [upd_ne e3]
    exact e5
  · refine R.write e1 (by rw [e2]; simp) e5 ⟨b, e2, e3, ?_, upd_same⟩
    rw [upd_ne (Ne.symm e3)]
    exact e4
theorem pt_bpop (hK : X.K = c.K) (hu : X.A.units + 1 < cLine) (ho : PE X o (tVar i)) (hbase : attributeBase (.Subscript o (.Constant (.str GREAT) j p) pos') "pop" X.env (eval (.Subscript o (.Constant (.str GREAT) j p) pos') X.env) = eval (.Subscript o (.Constant (.str GREAT) j p) pos') X.env := by rfl) (hline : (apos.endLine == cpos.line) = true := by rfl) :
    PE X (.Call (.Attribute (.Subscript o (.Constant (.str GREAT) j p) pos') "pop" apos) [] [] cpos) (TEof c r W (eBpop i)) :=
  PE.imp (pe_bm0 (T := "list") (id := "list.pop") PySem.F.plainAttrs_list PySem.F.slot_list_pop PySem.F.type_list_pop mt_pop (pe_dget hu ho (pe_str (x := GREAT)) fun _ _ => rfl) hbase hline) fun σ H Q ⟨ads, G, env, R, h⟩ => by
    simp only [eBpop] at h
    cases q : env[i]? with
    | none => simp only [q] at h; exact h.elim
    | some u =>
      cases u with
      | none => simp only [q] at h; exact h.elim
      | some u =>
        cases u with
        | t _ => simp only [q] at h; exact h.elim
        | ow u =>
          cases u with
          | boxD great fs =>
            simp only [q] at h
            obtain ⟨n, hn, h2⟩ := Sat_ofO.mp (Sat_bind.mp h)
            obtain ⟨a, b, e1, e2, e3, e4, e5⟩ := box_slot R q
            refine ⟨.ref a, e1, a, .ref b, rfl, .inl ⟨_, .inr GREAT, .inl e5, rfl, bx_great.symm⟩, .inl ⟨rfl, _, .inl (.inl e4)⟩, b, _, .int n, rfl, rfl, e4, by rw [List.length_map, List.getElem?_map, hn]; rfl, ?_⟩
            have R2 := (RS.bwrite (great' := great.dropLast) (fs' := fs) R e1 e2 e3 e4 e5).1
            rw [← List.map_dropLast]
            exact h2 ads G _ _ R2 (Nxt.wr (i := i) (by rw [e2]; simp) e4) (rep_int (c := c) G)
          | _ => simp only [q] at h; exact h.elim
theorem ts_bput (hu : X.A.units + 1 < cLine) (ho : PE X o (tVar i)) (he : PE X e (TEof c r W ea)) (hs : swapsWith e (some (.Subscript o (.Constant (.str k) j p) pos')) pos.line X.env = pure false := by rfl) :
    PS X (.Assign [.Subscript o (.Constant (.str k) j p) pos'] e pos) (TSof c r W (sBput i k ea)) := PS.imp (ps_dput hu ho (pe_str (x := k)) he hs) fun D σ H ⟨ads, G, env, R, h⟩ => by
  refine ⟨ads, G, env, R, Sat_mono (RE.so_Sat.mp h) (fun x e1 h1 ads1 G1 H1 v1 R1 s1 p1 => ?_) fun x e z => XC.of z⟩
  cases ql : look e1 x with
  | none => simp only [ql] at h1; exact h1.elim
  | some t =>
    have w := look_rep R1 p1 ql
    cases t with
    | int n =>
      cases w
      cases q : e1[i]? with
      | none => simp only [ql, q] at h1; exact h1.elim
      | some u =>
        cases u with
        | none => simp only [ql, q] at h1; exact h1.elim
        | some u =>
          cases u with
          | t _ => simp only [ql, q] at h1; exact h1.elim
          | ow u =>
            cases u with
            | boxD great fs =>
              simp only [ql, q] at h1
              by_cases m : k ≠ GREAT ∧ (fs.lookup k).isSome ∧ fs.length < 1000
              · rw [if_pos m] at h1
                obtain ⟨m1, m2, m3⟩ := m
                obtain ⟨old, ho⟩ := Option.isSome_iff_exists.mp m2
                obtain ⟨a, b, z1, z2, z3, z4, z5⟩ := box_slot R1 q
                refine ⟨.ref a, z1, a, _, rfl, .inl ⟨_, .inr k, z5, rfl, ?_, rfl⟩, ?_⟩
                · rw [bx_len]
                  exact Nat.lt_of_lt_of_le (show fs.length + 1 < LIM by unfold LIM; omega) (lim_line (Nat.le_refl _))
                · rw [bx_put m1 ho]
                  exact h1 ads1 G1 _ σ (RS.bwrite (great' := great) (fs' := updI k n fs) R1 z1 z2 z3 z4 z5).2 s1.sub
              · rw [if_neg m] at h1; exact h1.elim
            | _ => simp only [ql, q] at h1; exact h1.elim
    | _ => simp only [ql] at h1; exact h1.elim

/-! ### xs[::-1] -/
@[simp] def rRev (ea : EvE) : EvR := fun env => (ea env).bind fun x e => match look e x with
  | some (.lst ts) => .ok (.ow (.lst ts.reverse)) e
  | _ => .bad
theorem tr_rev {kk : Nat} {p1 p3 : Pos} (he : PE X e (TEof c r W ea)) : PE X (.Subscript e (.Slice none none (some (.UnaryOp .USub (.Constant (.int 1) kk p1) p2)) p3) pos) (TRof c r W (rRev ea)) := PE.imp (pe_revL he) fun σ H Q ⟨ads, G, env, R, h⟩ => by
  refine ⟨ads, G, env, R, Sat_mono (Sat_bind.mp h) (fun x e1 h1 ads1 G1 H1 v1 R1 s1 p1 => ?_) fun _ _ z => z⟩
  cases q : look e1 x with
  | none => simp only [q] at h1; exact h1.elim
  | some t =>
    have w := look_rep R1 p1 q
    cases t with
    | lst ts =>
      simp only [q] at h1
      obtain ⟨a, vs, rfl, hx, rr⟩ := w
      exact ⟨a, vs, rfl, .inl (.inl hx), QOut.list (QOut.res R1 s1 h1) rr.reverse⟩
    | _ => simp only [q] at h1; exact h1.elim

/-! ### a new box -/
def bPairs : List (Str × EvE) → En → RE (List (Str × Int))
  | [], env => .ok [] env
  | (k, ea) :: r, env => (ea env).bind fun x e1 => match look e1 x with
    | some (.int n) => (bPairs r e1).bind fun ns e => .ok ((k, n) :: ns) e
    | _ => .bad
def fBox (ef : EvF) (fs : List (Str × EvE)) : EvF := fun env => (ef env).bind fun o e1 => match o with
  | .lst ts => (match intsP ts with
    | some ns => (bPairs fs e1).bind fun ms e => .ok (.boxD ns ms) e
    | none => .bad)
  | _ => .bad
theorem pairs_imp {σ : L2.St} : ∀ {fs : List (Str × EvE)} {ads0 ads : Nat → List Addr} {G0 H0 G H : Hp} {env : En} {Q : List (V × V) → Hp → Prop}, RS c r ads G H σ env → Nxt ads0 G0 H0 ads G H →
    (bPairs fs env).Sat (fun ns env' => ∀ ads' G' H', RS c r ads' G' H' σ env' → Nxt ads G H ads' G' H' → ns.map Prod.fst = fs.map Prod.fst → Q (ns.map fun q => (V.str q.1, V.int q.2)) H') (XC c r W G0 σ) → tPairs (fs.map fun q => (tC (.str q.1), TEof c r W q.2)) σ H Q
  | [], ads0, ads, G0, H0, G, H, env, Q, R, s0, h => h ads G H R (Nxt.refl _ _ _) rfl
  | (k, ea) :: fs, ads0, ads, G0, H0, G, H, env, Q, R, s0, h => by
    refine ⟨ads, G, env, R, Sat_mono (Sat_bind.mp h) (fun x e1 h1 ads1 G1 H1 v1 R1 s1 p1 => ?_) fun x e z => z.weak s0.sub⟩
    cases q : look e1 x with
    | none => simp only [q] at h1; exact h1.elim
    | some t =>
      have w := look_rep R1 p1 q
      cases t with
      | int n =>
        cases w
        simp only [q] at h1
        exact pairs_imp R1 (s0.trans s1) (Sat_mono (Sat_bind.mp h1) (fun ns e2 h2 ads2 G2 H2 R2 s2 hk => h2 ads2 G2 H2 R2 (s1.trans s2) (by simp [hk])) fun _ _ z => z)
      | _ => simp only [q] at h1; exact h1.elim
theorem merge_box {q : Addr} : ∀ {ns : List (Str × Int)} {acc : List (Key × V)}, (∀ f ∈ ns, ∀ kv ∈ acc, kv.1 ≠ Sum.inr f.1) → (ns.map Prod.fst).Nodup → mergeK acc (ns.map fun f => (Sum.inr f.1, V.int f.2)) = acc ++ ns.map fun f => (Sum.inr f.1, V.int f.2)
  | [], acc, _, _ => by simp [mergeK]
  | f :: ns, acc, h, nd => by
    rw [List.map_cons, List.nodup_cons] at nd
    have no : (acc.any fun kv => decide (kv.1 = (Sum.inr f.1 : Key))) = false := by
      rw [List.any_eq_false]
      intro kv hkv
      simpa using h f List.mem_cons_self kv hkv
    have e1 : putK acc (Sum.inr f.1 : Key) (V.int f.2) = acc ++ [(Sum.inr f.1, V.int f.2)] := by unfold putK; rw [no, if_neg Bool.false_ne_true]
    show mergeK (putK acc (Sum.inr f.1) (V.int f.2)) (ns.map fun f => (Sum.inr f.1, V.int f.2)) = _
    rw [e1, merge_box (q := q) (fun g hg kv hkv => ?_) nd.2]
    · simp
    · rcases List.mem_append.mp hkv with z | z
      · exact h g (List.mem_cons_of_mem _ hg) kv z
      · rw [List.mem_singleton.mp z]
        intro e
        have e' : f.1 = g.1 := Sum.inr.inj e
        exact nd.1 (by rw [e']; exact List.mem_map_of_mem hg)
theorem pf_box {keys : List (Option Expr)} {values : List Expr} {ef : EvF} {fs : List (Str × EvE)} (h : PPs X pos keys values ((tC (.str GREAT), TFof c r W ef) :: fs.map fun q => (tC (.str q.1), TEof c r W q.2))) (hnd : (GREAT :: fs.map Prod.fst).Nodup) (hl : fs.length ≤ 14)
    (hall : keys.all (·.isSome) = true := by rfl) (hkl : keys.length = values.length := by rfl) (h0 : keys ≠ [] := by intro z; cases z) (h15 : keys.length ≤ 15 := by decide) : PE X (.Dict keys values pos) (TFof c r W (fBox ef fs)) := PE.imp (pe_disp h hall hkl h0 h15) fun σ H Q ⟨ads, G, env, R, hh⟩ => fun p hp => by
  have R0 := R.lay (ho := .dK []) hp
  have n0 := New.of R hp
  have sx : Nxt ads G H ads G (upd H p (.dK [])) := Nxt.of (Step.allocO R.sub hp)
  refine ⟨ads, G, env, R0, Sat_mono (Sat_bind.mp hh) (fun o e1 h1 ads1 G1 H1 b ad R1 s1 ow nw => ?_) fun _ _ z => z⟩
  cases o with
  | lst ts =>
    cases qi : intsP ts with
    | none => simp only [qi] at h1; exact h1.elim
    | some ns =>
      simp only [qi] at h1
      obtain ⟨rfl, vs, hb, rr⟩ := ow
      have ev := ints_rep rr qi
      subst ev
      obtain ⟨p1, p2, p3⟩ := s1.hold p _ upd_same n0.2.2
      have nb := nw b (List.mem_singleton.mpr rfl)
      have ne : p ≠ b := fun z => by
        have y := nb.2
        rw [← z, upd_same] at y; cases y
      refine pairs_imp (G0 := G) R1 (sx.trans s1) (Sat_mono (Sat_bind.mp h1) (fun ms e2 h2 ads2 G2 H2 R2 s2 hk => ?_) fun _ _ z => z)
      obtain ⟨q1, q2, q3⟩ := s2.hold p _ p1 p2
      obtain ⟨b1, b2, b3⟩ := s2.hold b _ hb nb.1.2.2
      refine ⟨q1, (Sum.inr GREAT, V.ref b) :: ms.map (fun f => (Sum.inr f.1, V.int f.2)), ?_, ?_, ?_⟩
      · rw [List.map_cons, List.map_map]; rfl
      · have := congrArg List.length hk
        rw [List.length_map, List.length_map] at this
        rw [List.length_cons, List.length_map]
        omega
      · have hnd' := hnd
        rw [← hk, List.nodup_cons] at hnd'
        have em : mergeK [] ((Sum.inr GREAT, V.ref b) :: ms.map (fun f => (Sum.inr f.1, V.int f.2))) = bxK b ms := by
          show mergeK [(Sum.inr GREAT, V.ref b)] (ms.map (fun f => (Sum.inr f.1, V.int f.2))) = _
          rw [merge_box (q := b) (fun f hf kv hkv => ?_) hnd'.2]
          · rfl
          · rw [List.mem_singleton.mp hkv]
            intro e
            have e' : GREAT = f.1 := Sum.inr.inj e
            exact hnd'.1 (by rw [e']; exact List.mem_map_of_mem hf)
        rw [em]
        have n2 : New r ads2 G2 p := ⟨q3 (p3 n0.1), n0.2.1, q2⟩
        have R3 := R2.scratch (ho' := .dK (bxK b ms)) n2 q1
        have st : Nxt ads2 G2 H2 ads2 G2 (upd H2 p (.dK (bxK b ms))) → Nxt ads G H ads2 G2 (upd H2 p (.dK (bxK b ms))) := fun z => ((sx.trans s1).trans s2).trans z
        have sW : Nxt ads G H ads2 G2 (upd H2 p (.dK (bxK b ms))) := by
          have base := (sx.trans s1).trans s2
          refine ⟨base.sub, fun a o ea na => ?_, fun a ea => ?_⟩
          · have nea : a ≠ p := fun z => by rw [z, hp] at ea; cases ea
            rw [upd_ne nea]
            exact base.hold a o ea na
          · by_cases z : a = p
            · rw [z, upd_same] at ea; cases ea
            · rw [upd_ne z] at ea
              exact base.there a ea
        refine h2 ads2 G2 _ p [p, b] R3 sW ⟨b, rfl, ne, ?_, upd_same⟩ fun a ha => ?_
        · rw [upd_ne (Ne.symm ne)]
          exact b1
        · simp at ha
          rcases ha with rfl | rfl
          · exact ⟨n2, hp⟩
          · exact ⟨⟨b3 nb.1.1, nb.1.2.1, b2⟩, sx.there _ nb.2⟩
  | _ => exact h1.elim
end
end TreeL
end
section
/-! TL13: either of two readings; the own methods behind str, len, ==, !=, +, [], in. -/
namespace TreeL
open PySem PySem.Spec PyProof.Rows L2

/-! ### either of two -/
def orR {α : Type} (x : RE α) (y : RE α) : RE α := match x with
  | .bad => y
  | r => r
def rAlt (a b : EvR) : EvR := fun env => orR (a env) (b env)
def eAlt (a b : EvE) : EvE := fun env => orR (a env) (b env)
theorem orR_cases {α : Type} {x y : RE α} : orR x y = x ∨ orR x y = y := by
  cases x with
  | bad => exact .inr rfl
  | ok _ _ => exact .inl rfl
  | exc _ _ => exact .inl rfl
section
variable {X : Cx} {c : TC} {r : Ref} {W : WX} {e : Expr}
theorem PE.or {t t' : TE} (h : PE X e t) (h' : PE X e t') : PE X e (fun σ H Q => t σ H Q ∨ t' σ H Q) := ⟨fun pins s σ H Q I q => by
  rcases q with q | q
  · exact h.run pins s σ H Q I q
  · exact h'.run pins s σ H Q I q⟩
theorem tr_alt {a b : EvR} (h : PE X e (TRof c r W a)) (h' : PE X e (TRof c r W b)) : PE X e (TRof c r W (rAlt a b)) := PE.imp (PE.or h h') fun σ H Q ⟨ads, G, env, R, q⟩ => by
  rcases orR_cases (x := a env) (y := b env) with z | z
  · exact .inl ⟨ads, G, env, R, by rw [← z]; exact q⟩
  · exact .inr ⟨ads, G, env, R, by rw [← z]; exact q⟩
theorem pt_alt {a b : EvE} (h : PE X e (TEof c r W a)) (h' : PE X e (TEof c r W b)) : PE X e (TEof c r W (eAlt a b)) := PE.imp (PE.or h h') fun σ H Q ⟨ads, G, env, R, q⟩ => by
  rcases orR_cases (x := a env) (y := b env) with z | z
  · exact .inl ⟨ads, G, env, R, by rw [← z]; exact q⟩
  · exact .inr ⟨ads, G, env, R, by rw [← z]; exact q⟩
/-- nothing is said (what is never reached) -/
theorem pt_bad : PE X e (TEof c r W fun _ => .bad) := ⟨fun _ _ _ _ _ _ ⟨_, _, _, _, q⟩ => q.elim⟩
theorem tr_bad : PE X e (TRof c r W fun _ => .bad) := ⟨fun _ _ _ _ _ _ ⟨_, _, _, _, q⟩ => q.elim⟩
theorem pf_bad : PE X e (TFof c r W fun _ => .bad) := ⟨fun _ _ _ _ _ _ ⟨_, _, _, _, q⟩ => q.elim⟩
theorem ts_bad {st : Stmt} : PS X st (TSof c r W fun _ => .bad) := ⟨fun _ _ _ _ _ _ ⟨_, _, _, _, q⟩ => q.elim⟩
end

/-! ### a def run deeper -/
/-- a call of the def f with values xs, from the context A' -/
def callOf (n : Nat) (F : FSem) (ds : List PV) (xs : List Vl) (e : En) : RE Arg := if okCall n ds xs then (match argsOf e xs with
  | none => .bad
  | some args => match F (args ++ ds.map Arg.t) with
    | .ret a as => .ok a (putArgs xs (as.take xs.length) e)
    | .exc x as => .exc x (putArgs xs (as.take xs.length) e)
    | .bad => .bad) else .bad
/-- x of the class k, its own method -/
def isIns (k : Nat) (env : En) (x : Vl) : Bool := match look env x with
  | some (.ins k' _) => k' == k
  | _ => false
def rDun1 (k : Nat) (F : FSem) (ok : Arg → Bool) (ea : EvE) : EvR := fun env => (ea env).bind fun x e => if isIns k e x then (callOf 1 F [] [x] e).bind fun a e => if ok a then .ok a e else .bad else .bad
/-- the result through g -/
def rDun2 (k : Nat) (F : FSem) (g : Arg → Option Arg) (oky : En → Vl → Bool) (ea eb : EvE) : EvR := fun env => (ea env).bind fun x e1 => (eb e1).bind fun y e => if isIns k e x && oky e y then (callOf 2 F [] [x, y] e).bind fun a e => ofO (g a) e else .bad
section
variable {X : Cx} {c : TC} {r : Ref} {W : WX} {a b e : Expr} {ea eb : EvE} {k n kc : Nat} {f : Addr} {fd : FuncData} {ps : List Str} {F : FSem} {pos p : Pos}
theorem call_core' {ads0 ads : Nat → List Addr} {G0 H0 G H : Hp} {σ : L2.St} {env : En} {xs : List Vl} {vs : List V} {Q : VK} (R : RS c r ads G H σ env) (s0 : Nxt ads0 G0 H0 ads G H) (pv : VReps c σ G xs vs)
    (h : (callOf n F [] xs env).Sat (fun o env' => ∀ ads' G' H' v, RS c r ads' G' H' σ env' → Nxt ads0 G0 H0 ads' G' H' → ResNew c r ads' G' H0 H' o v → Q v H') (XC c r W G0 σ)) : spF c n F vs H Q (WE W σ) := by
  have z := call_core (ds := []) (dvs := []) (n := n) (F := F) R s0 pv (fun _ => rfl) h
  rw [List.append_nil] at z
  exact z
/-- the def runs, all arguments given -/
theorem runG0 {A' : Around} {sp : Sp} {E : XK} (hF : FnG X.prog X.w X.K X.mg X.base k f fd ps sp) (hb : Binds X.K fd ps []) (hr : RoomG k A') (hfr : A'.frames = some X.stack) {pins : List (Addr × Obj)} {st : Shared} {σ : L2.St} {H : Hp} {us : List Value} {vs : List V} {Q : VK}
    (hx : PassesAt (L2.CX X.prog X.w) X σ E) (I : Inv X pins σ H st) (rv : Vals vs us) (h : sp vs H Q E) : wpAny (model X.prog X.w) A' (call (.ref f) us) (EP X pins σ Q) X.xe st := runG hF hb .nil hr hfr hx I rv (by rw [List.append_nil]; exact h)
/-- the instance behind a tree of the class kc -/
theorem ins_at {ads : Nat → List Addr} {G H : Hp} {σ : L2.St} {env : En} {x : Vl} {v : V} (R : RS c r ads G H σ env) (p : VRep c σ G x v) (h : isIns kc env x = true) : ∃ a dx gs, v = .ref a ∧ H a = some (.ins (c.C kc) dx gs) := by
  unfold isIns at h
  cases q : look env x with
  | none => rw [q] at h; cases h
  | some t =>
    rw [q] at h
    cases t with
    | ins k' fs =>
      obtain ⟨a, dx, gs, e, hH, _⟩ := look_rep R p q
      have e2 : k' = kc := beq_iff_eq.mp h
      subst e2
      exact ⟨a, dx, gs, e, hH⟩
    | _ => cases h
theorem inst_of {pins : List (Addr × Obj)} {st : Shared} {σ : L2.St} {H : Hp} {q C dx : Addr} {gs : List (Str × V)} (I : Inv X pins σ H st) (h : H q = some (.ins C dx gs)) : ∃ ox od, PySem.W.InstAt st.heap q ox C od := by
  obtain ⟨mA, J, _⟩ := ins_get I.hok h
  obtain ⟨od, J, _⟩ := J.look
  exact ⟨_, _, J⟩
/-- an own method by name, as the library's roads want it -/
structure OwnM (K : PySem.W.Frag) (C : Addr) (m : Str) (f : Addr) : Prop where
  at_ : PySem.W.findIn K (.ref C) m = some (some (.ref f))
  fn : PySem.W.isFn K (.ref f) = true
theorem frames_in1 {A : Around} {st : List Env} (h : A.frames = some st) : A.in1.frames = some st := h
/-- one value, an own method of it: at the values -/
def rOne (c : TC) (W : WX) (kc : Nat) (F : FSem) : L2.St → V → Hp → VK → Prop := fun σ x H Q => (∃ a dx gs, x = .ref a ∧ H a = some (.ins (c.C kc) dx gs)) ∧ spF c 1 F [x] H Q (WE W σ)
theorem dun1_imp {ok : Arg → Bool} {σ : L2.St} {H : Hp} {Q : VK} (h : TRof c r W (rDun1 kc F ok ea) σ H Q) : TEof c r W ea σ H (fun x H1 => rOne c W kc F σ x H1 (fun v H2 => Q v H2 ∧ ∃ o ads' G' H0, ok o = true ∧ ResNew c r ads' G' H0 H2 o v)) := by
  obtain ⟨ads, G, env, R, h⟩ := h
  refine ⟨ads, G, env, R, Sat_mono (Sat_bind.mp h) (fun x e1 h1 ads1 G1 H1 v1 R1 s1 p1 => ?_) fun _ _ z => z⟩
  by_cases m : isIns kc e1 x = true
  · rw [if_pos m] at h1
    refine ⟨ins_at R1 p1 m, call_core' (xs := [x]) R1 s1 ⟨v1, [], rfl, p1, rfl⟩ (Sat_mono (Sat_bind.mp h1) (fun o e2 h2 ads' G' H' v R' s' rn => ?_) fun _ _ z => z)⟩
    by_cases k : ok o = true
    · rw [if_pos k] at h2
      exact ⟨h2 ads' G' H' v R' s' rn, o, ads', G', H, k, rn⟩
    · rw [if_neg k] at h2; exact h2.elim
  · rw [if_neg m] at h1; exact h1.elim
def okStr : Arg → Bool
  | .t (.str _) => true
  | _ => false
def okLen : Arg → Bool
  | .t (.int n) => decide (0 ≤ n ∧ n < 2 ^ 63)
  | _ => false
def oneV (P : V → Hp → Prop) : List V → Hp → Prop := fun vs H => match vs with
  | [v] => P v H
  | _ => False
theorem okStr_rep {ads' : Nat → List Addr} {G' H0 H' : Hp} {o : Arg} {v : V} {u : Value} (k : okStr o = true) (h : ResNew c r ads' G' H0 H' o v) (rv : RelV v u) : ∃ x t, u = .str x t := by
  cases o with
  | ow _ => cases k
  | t t =>
    cases t with
    | str x =>
      have h' : Rep c G' (.str x) v := h
      simp only [Rep] at h'
      obtain ⟨rfl, _⟩ := h'
      obtain ⟨t, rfl⟩ := rv
      exact ⟨x, t, rfl⟩
    | _ => cases k
/-- str(e) by an own __str__ -/
theorem tr_strOwn (M : OwnM X.K (c.C kc) "__str__" f) (hF : FnG X.prog X.w X.K X.mg X.base k f fd ps (spF c 1 F)) (hb : Binds X.K fd ps []) (hr : RoomG (k + 2) X.A) (tk : Takes X W) (hg : Gl X "str") (hm : X.mg "str" = none) (he : PE X e (TEof c r W ea))
    (h1 : starEach [e] X.env = (false, eval e X.env) :: starEach [] X.env := by rfl) (hpl : (backTo pos (starEach ([] : List Expr) X.env)).any (·.1) = false := by rfl) : PE X (.Call (.Name "str" p) [e] [] pos) (TRof c r W (rDun1 kc F okStr ea)) := ⟨fun pins st σ H Q I h => by
  have h' : tCons (TEof c r W ea) tNil σ H (oneV fun x H1 => rOne c W kc F σ x H1 (fun v H2 => Q v H2 ∧ ∃ o ads' G' H0, okStr o = true ∧ ResNew c r ads' G' H0 H2 o v)) := dun1_imp h
  refine wpAny_Call_Name_kw (ld_blt I hg hm PyProof.Rows.boot_str (PyProof.Rows.callWith_type1 (thn ((pa_cons he pa_nil h1).run pos pins st σ H _ I h') fun us s1 ⟨vs, H1, I1, r1, q1⟩ => ?_) h1 hpl) (by decide) (by decide))
  match vs, r1, q1 with
  | [v], .cons rv .nil, ⟨⟨a, dx, gs, e1, hH⟩, sp⟩ =>
    subst e1
    obtain rfl := (show _ = Value.ref a from rv)
    obtain ⟨ox, od, J⟩ := inst_of I1 hH
    refine PySem.W.kso_call (by have := hr.rm.un; show X.A.units + 1 + 1 < cLine; omega) I1.kIn J M.at_ M.fn ?_
    refine thn (runG0 hF hb (RoomG.in1 (RoomG.in1 hr)) (frames_in1 (frames_in1 I1.ok.frames)) (passAt tk σ) I1 (.cons rv .nil) sp) fun u s2 ⟨v2, H2, I2, r2, q2, o, ads', G', H0, ko, rn⟩ => ?_
    obtain ⟨x, t, rfl⟩ := okStr_rep ko rn r2
    exact ⟨v2, H2, I2, r2, q2⟩⟩
theorem okLen_rep {ads' : Nat → List Addr} {G' H0 H' : Hp} {o : Arg} {v : V} {u : Value} (k : okLen o = true) (h : ResNew c r ads' G' H0 H' o v) (rv : RelV v u) : ∃ n t, u = .int n t ∧ v = .int n ∧ 0 ≤ n ∧ n < 2 ^ 63 := by
  cases o with
  | ow _ => cases k
  | t t =>
    cases t with
    | int x =>
      have h' : Rep c G' (.int x) v := h
      simp only [Rep] at h'
      subst h'
      obtain ⟨t, rfl⟩ := rv
      exact ⟨x, t, rfl, rfl, of_decide_eq_true k⟩
    | _ => cases k
/-- len(e) by an own __len__ -/
theorem tr_lenOwn (M : OwnM X.K (c.C kc) "__len__" f) (hF : FnG X.prog X.w X.K X.mg X.base k f fd ps (spF c 1 F)) (hb : Binds X.K fd ps []) (hr : RoomG (k + 1) X.A) (tk : Takes X W) (hg : Gl X "len") (hm : X.mg "len" = none) (he : PE X e (TEof c r W ea))
    (h1 : starEach [e] X.env = (false, eval e X.env) :: starEach [] X.env := by rfl) (hpl : (backTo pos (starEach ([] : List Expr) X.env)).any (·.1) = false := by rfl) : PE X (.Call (.Name "len" p) [e] [] pos) (TRof c r W (rDun1 kc F okLen ea)) := ⟨fun pins st σ H Q I h => by
  have h' : tCons (TEof c r W ea) tNil σ H (oneV fun x H1 => rOne c W kc F σ x H1 (fun v H2 => Q v H2 ∧ ∃ o ads' G' H0, okLen o = true ∧ ResNew c r ads' G' H0 H2 o v)) := dun1_imp h
  refine wpAny_Call_Name_kw (ld_blt I hg hm boot_len (PyProof.Rows.callWith_builtin1 (thn ((pa_cons he pa_nil h1).run pos pins st σ H _ I h') fun us s1 ⟨vs, H1, I1, r1, q1⟩ => ?_) h1 hpl) (by decide) (by decide))
  match vs, r1, q1 with
  | [v], .cons rv .nil, ⟨⟨a, dx, gs, e1, hH⟩, sp⟩ =>
    subst e1
    obtain rfl := (show _ = Value.ref a from rv)
    obtain ⟨ox, od, J⟩ := inst_of I1 hH
    obtain ⟨m, fr⟩ := I1.fr
    refine PySem.W.len_K fr I1.ok.mod.kin J M.at_ M.fn ?_
    refine thn (runG0 hF hb (RoomG.in1 hr) (frames_in1 I1.ok.frames) (passAt tk σ) I1 (.cons rv .nil) sp) fun u s2 ⟨v2, H2, I2, r2, q2, o, ads', G', H0, ko, rn⟩ => ?_
    obtain ⟨n, t, rfl, rfl, b1, b2⟩ := okLen_rep ko rn r2
    exact ⟨⟨b1, b2⟩, .int n, H2, I2.tok _, ⟨_, rfl⟩, q2⟩⟩

/-! ### two values -/
def rTwo (c : TC) (W : WX) (kc : Nat) (F : FSem) (P : V → Hp → Prop) : L2.St → V → V → Hp → VK → Prop := fun σ x y H Q => (∃ a dx gs, x = .ref a ∧ H a = some (.ins (c.C kc) dx gs)) ∧ P y H ∧ spF c 2 F [x, y] H Q (WE W σ)
/-- what F gave, and what is wanted of g of it -/
def QG (c : TC) (r : Ref) (W : WX) (σ : L2.St) (ads0 : Nat → List Addr) (G0 H0 : Hp) (g : Arg → Option Arg) (Q : VK) : VK := fun v H2 => ∃ o ads' G' e2, RS c r ads' G' H2 σ e2 ∧ Nxt ads0 G0 H0 ads' G' H2 ∧ ResNew c r ads' G' H0 H2 o v ∧ ∃ o', g o = some o' ∧ (∀ ads'' G'' H'' v', RS c r ads'' G'' H'' σ e2 → Nxt ads0 G0 H0 ads'' G'' H'' → ResNew c r ads'' G'' H0 H'' o' v' → Q v' H'')
theorem dun2_imp {g : Arg → Option Arg} {oky : En → Vl → Bool} {P : V → Hp → Prop} (hP : ∀ ads G H σ env y v, RS c r ads G H σ env → VRep c σ G y v → oky env y = true → P v H) {σ : L2.St} {H : Hp} {Q : VK} (h : TRof c r W (rDun2 kc F g oky ea eb) σ H Q) :
    TEof c r W ea σ H (fun x H1 => TEof c r W eb σ H1 (fun y H2 => ∃ ads0 G0 H0, rTwo c W kc F P σ x y H2 (QG c r W σ ads0 G0 H0 g Q))) := by
  obtain ⟨ads, G, env, R, h⟩ := h
  refine ⟨ads, G, env, R, Sat_mono (Sat_bind.mp h) (fun x e1 h1 ads1 G1 H1 v1 R1 s1 p1 => ?_) fun _ _ z => z⟩
  refine ⟨ads1, G1, e1, R1, Sat_mono (Sat_bind.mp h1) (fun y e2 h2 ads2 G2 H2 v2 R2 s2 p2 => ?_) fun x e z => z.weak s1.sub⟩
  by_cases m : (isIns kc e2 x && oky e2 y) = true
  · rw [if_pos m] at h2
    rw [Bool.and_eq_true] at m
    refine ⟨ads, G, H, ins_at R2 (p1.mono s2.sub) m.1, hP _ _ _ _ _ _ _ R2 p2 m.2, call_core' (xs := [x, y]) R2 (s1.trans s2) ⟨v1, [v2], rfl, p1.mono s2.sub, v2, [], rfl, p2, rfl⟩ (Sat_mono (Sat_bind.mp h2) (fun o e3 h3 ads' G' H' v R' s' rn => ?_) fun _ _ z => z)⟩
    obtain ⟨o', go, h4⟩ := Sat_ofO.mp h3
    exact ⟨o, ads', G', e3, R', s', rn, o', go, h4⟩
  · rw [if_neg m] at h2; exact h2.elim
def gId : Arg → Option Arg := some
def gNot : Arg → Option Arg
  | .t (.bl b) => some (.t (.bl !b))
  | _ => none
def gBl : Arg → Option Arg
  | .t (.bl b) => some (.t (.bl b))
  | _ => none
def anyY : En → Vl → Bool := fun _ _ => true
theorem QG.id {σ : L2.St} {ads0 : Nat → List Addr} {G0 H0 H2 : Hp} {Q : VK} {v : V} (h : QG c r W σ ads0 G0 H0 gId Q v H2) : Q v H2 := by
  obtain ⟨o, ads', G', e2, R, s, rn, o', go, q⟩ := h
  cases go
  exact q ads' G' H2 v R s rn
theorem QG.bl {σ : L2.St} {ads0 : Nat → List Addr} {G0 H0 H2 : Hp} {Q : VK} {v : V} {g : Arg → Option Arg} {b' : Bool → Bool} (hg : ∀ o o', g o = some o' → ∃ b, o = .t (.bl b) ∧ o' = .t (.bl (b' b))) (h : QG c r W σ ads0 G0 H0 g Q v H2) : ∃ b, v = .bl b ∧ Q (.bl (b' b)) H2 := by
  obtain ⟨o, ads', G', e2, R, s, rn, o', go, q⟩ := h
  obtain ⟨b, rfl, rfl⟩ := hg o o' go
  have rn' : Rep c G' (.bl b) v := rn
  simp only [Rep] at rn'
  subst rn'
  exact ⟨b, rfl, q ads' G' H2 _ R s (rep_bl (c := c) G')⟩
theorem gNot_bl : ∀ o o', gNot o = some o' → ∃ b, o = .t (.bl b) ∧ o' = .t (.bl (!b)) := fun o o' h => by
  cases o with
  | ow _ => cases h
  | t t => cases t <;> first | (cases h; exact ⟨_, rfl, rfl⟩) | cases h
theorem gBl_bl : ∀ o o', gBl o = some o' → ∃ b, o = .t (.bl b) ∧ o' = .t (.bl (id b)) := fun o o' h => by
  cases o with
  | ow _ => cases h
  | t t => cases t <;> first | (cases h; exact ⟨_, rfl, rfl⟩) | cases h
/-- a two-place operation by an own method, in PE -/
theorem two_run {g : Arg → Option Arg} {oky : En → Vl → Bool} {P : V → Hp → Prop} {f2 : Value → Value → Sem Value} (hP : ∀ ads G H σ env y v, RS c r ads G H σ env → VRep c σ G y v → oky env y = true → P v H) (ha : PE X a (TEof c r W ea)) (hb : PE X b (TEof c r W eb))
    (op : ∀ pins st σ H x y (v u : Value) Q ads0 G0 H0, Inv X pins σ H st → RelV x v → RelV y u → rTwo c W kc F P σ x y H (QG c r W σ ads0 G0 H0 g Q) → wpAny (model X.prog X.w) X.A (f2 v u) (EP X pins σ Q) X.xe st)
    {pins : List (Addr × Obj)} {st : Shared} {σ : L2.St} {H : Hp} {Q : VK} (I : Inv X pins σ H st) (h : TRof c r W (rDun2 kc F g oky ea eb) σ H Q) :
    wpAny (model X.prog X.w) X.A (eval a X.env) (fun v s1 => wpAny (model X.prog X.w) X.A (eval b X.env) (fun u s2 => wpAny (model X.prog X.w) X.A (f2 v u) (EP X pins σ Q) X.xe s2) X.xe s1) X.xe st :=
  binT ha hb I (dun2_imp hP h) fun v u s2 x y H2 I2 rx ry ⟨ads0, G0, H0, q⟩ => op pins s2 σ H2 x y v u Q ads0 G0 H0 I2 rx ry q
theorem ne_entry {A : Around} {E : Value → Shared → Prop} {s : Shared} {K : PySem.W.Frag} {x C : Addr} {ox : Obj} {od : Option Obj} {b : Value} {prog : Program} {w : World} {Q : Value → Shared → Prop} (hu : A.units < cLine) (XK : K.In s.heap) (I : PySem.W.InstAt s.heap x ox C od)
    (hs : PySem.W.findIn K (.ref C) "__eq__" = some (some (.ref f))) (hf : PySem.W.isFn K (.ref f) = true) (h : wpAny (model prog w) A (call (.ref f) [.ref x, b]) (fun v s' => ∃ k, v = .bool k ∧ Q (.bool !k) s') E s) :
    wpAny (model prog w) A (Builtin.«object.__ne__» ⟨[.ref x, b], []⟩) (fun fin s' => ∃ v, fin = .done (.ret v) ∧ (∃ k, v = .bool k) ∧ Q v s') E s := by
  unfold Builtin.«object.__ne__»
  refine wpAny_bind (wpAny_pure ?_)
  refine wpAny_bind (wpAny_cRoomFor hu ?_)
  refine wpAny_bind (PySem.W.ifBound_K XK I hs hf (wpAny_mono h (fun v s' hv => ?_) fun _ _ y => y))
  obtain ⟨k, rfl, q⟩ := hv
  exact wpAny_bind (wpAny_truthy_bool (wpAny_pure ⟨_, rfl, ⟨_, rfl⟩, q⟩))
theorem ne_bound {A : Around} {E : Value → Shared → Prop} {s : Shared} {K : PySem.W.Frag} {x C : Addr} {ox : Obj} {od : Option Obj} {args : List Value} {M : Model} {Q : Option Value → Shared → Prop} (XK : K.In s.heap) (I : PySem.W.InstAt s.heap x ox C od) (hne : PySem.W.findIn K (.ref C) "__ne__" = some (some (.builtin "object.__ne__")))
    (h : wpAny M A (call (.builtin "object.__ne__") (.ref x :: args)) (fun v => Q (some v)) E s) : wpAny M A (callSpecialIfBound? (.ref x) "__ne__" args) Q E s := by
  simp only [callSpecialIfBound?, bindSpecialIfBound?]
  refine wpAny_holding (wpAny_bind (wpAny_bind (wpAny_bind (I.type.here ((PySem.W.looks_findIn XK hne).here ?_)))))
  refine wpAny_bind (wpAny_askSetting (wpAny_ite ?_))
  have fin : wpAny M A (call (.builtin "object.__ne__") ([.ref x] ++ args) >>= fun v => pure (some v)) Q E s := wpAny_bind (wpAny_mono h (fun v s' z => wpAny_pure z) fun _ _ z => z)
  split
  · exact wpAny_bind (wpAny_of_eq (PySem.F.cmp_object.ne.bind _) (wpAny_pure (by exact fin)))
  · exact wpAny_tryCatch (wpAny_bind (wpAny_of_eq (PySem.F.cmp_object.ne.bind _) (wpAny_pure (by exact fin))))
theorem ne_K {A : Around} {E : Value → Shared → Prop} {s : Shared} {K : PySem.W.Frag} {x C : Addr} {h0 : Heap} {L : Addr} {m : Str → Option Value} {ox : Obj} {od : Option Obj} {b tb : Value} {prog : Program} {w : World} {Q : Value → Shared → Prop} (hu : A.units + 1 < cLine) (Fr0 : Fr h0 L s.heap m) (X0 : K.In h0) (I : PySem.W.InstAt s.heap x ox C od) (hbt : PySem.W.Looks (model prog w) s.heap (typeOf b) tb) (hn : PySem.W.notFirst K C tb = true)
    (hne : PySem.W.findIn K (.ref C) "__ne__" = some (some (.builtin "object.__ne__"))) (hob : PySem.W.mroIn K C (.type "object") = some true) (hs : PySem.W.findIn K (.ref C) "__eq__" = some (some (.ref f))) (hf : PySem.W.isFn K (.ref f) = true)
    (h : wpAny (model prog w) A.in1 (call (.ref f) [.ref x, b]) (fun v s' => ∃ k, v = .bool k ∧ Q (.bool !k) s') E s) : wpAny (model prog w) A (richCompare .NotEq (.ref x) b) Q E s := by
  have XK := X0.keeps Fr0.keep
  have ent := ne_entry (A := A.in1) (E := E) (show A.in1.units < cLine from hu) XK I hs hf h
  have one : wpAny (model prog w) A (tryCompare (.ref x) "__ne__" b) (fun r s' => ∃ v, r = some v ∧ Q v s') E s := by
    unfold tryCompare
    refine wpAny_bind (ne_bound XK I hne (wpAny_call (codeAny_call_builtin PySem.F.cmp_object.ne.plain PySem.F.cmpEntry_ne (PySem.W.check_slot PySem.F.cmpKind_ne PySem.F.cmpSplit_ne (I.type.andThen (PySem.W.looks_mroIn XK hob)) (PySem.F.cmpArgs_ne _ _) (wpAny_mono ent (fun fin s' z => ?_) fun _ _ z => z)))))
    obtain ⟨v, rfl, ⟨k, rfl⟩, q⟩ := z
    exact wpAny_pure ⟨_, rfl, q⟩
  unfold richCompare
  simp only [oneThing_ref, cmpInfo_NotEq]
  refine wpAny_holding (wpAny_bind (wpAny_cRoomFor (by omega) ?_))
  refine wpAny_bind (I.type.here (wpAny_bind (hbt.here ?_)))
  split
  · rename_i q
    have e : PySem.W.subIn K tb (.ref C) = some false := by
      rcases Bool.or_eq_true_iff.mp hn with e | e
      · rw [beq_iff_eq.mp e] at q; simp at q
      · exact beq_iff_eq.mp e
    refine wpAny_bind ((PySem.W.looks_subIn XK e).here ?_)
    simp only [Bool.false_eq_true, if_false]
    refine wpAny_bind (wpAny_mono one (fun r s' z => ?_) fun _ _ e => e)
    obtain ⟨v, rfl, hq⟩ := z
    exact wpAny_pure hq
  · refine wpAny_bind (wpAny_pure ?_)
    simp only [Bool.false_eq_true, if_false]
    refine wpAny_bind (wpAny_mono one (fun r s' z => ?_) fun _ _ e => e)
    obtain ⟨v, rfl, hq⟩ := z
    exact wpAny_pure hq
def PIns (c : TC) (kc : Nat) : V → Hp → Prop := fun v H => ∃ a dx gs, v = .ref a ∧ H a = some (.ins (c.C kc) dx gs)
theorem pins_ok : ∀ ads G H σ env y v, RS c r ads G H σ env → VRep c σ G y v → isIns kc env y = true → PIns c kc v H := fun _ _ _ _ _ _ _ R p h => ins_at R p h
/-- a == b by an own __eq__, both of the class -/
theorem tr_eqOwn (M : OwnM X.K (c.C kc) "__eq__" f) (hF : FnG X.prog X.w X.K X.mg X.base k f fd ps (spF c 2 F)) (hb : Binds X.K fd ps []) (hr : RoomG k X.A) (tk : Takes X W) (ha : PE X a (TEof c r W ea)) (hbb : PE X b (TEof c r W eb)) :
    PE X (.Compare a [.Eq] [b] pos) (TRof c r W (rDun2 kc F gBl (isIns kc) ea eb)) := ⟨fun pins st σ H Q I h => by
  refine wpAny_Compare1 (two_run (f2 := compareOp .Eq) pins_ok ha hbb (fun pins st σ H x y v u Q ads0 G0 H0 I rx ry ⟨⟨a1, dx, gs, e1, hH⟩, ⟨a2, dy, gs2, e2, hH2⟩, sp⟩ => ?_) I h) (nomark _)
  subst e1; subst e2
  obtain rfl := (show v = Value.ref a1 from rx)
  obtain rfl := (show u = Value.ref a2 from ry)
  obtain ⟨ox, od, J⟩ := inst_of I hH
  obtain ⟨ox2, od2, J2⟩ := inst_of I hH2
  obtain ⟨m, fr⟩ := I.fr
  show wpAny _ _ (richCompare .Eq _ _) _ _ _
  refine PySem.W.cmp_K (op := .Eq) hr.rm.units0 fr I.ok.mod.kin J J2.type (by simp [PySem.W.notFirst]) M.at_ M.fn ?_
  refine thn (runG0 hF hb hr I.ok.frames (passAt tk σ) I (.cons rx (.cons ry .nil)) sp) fun u s2 ⟨v2, H2, I2, r2, qg⟩ => ?_
  obtain ⟨bb, rfl, q⟩ := qg.bl gBl_bl
  cases r2
  exact ⟨.bl bb, H2, I2, (show RelV (.bl bb) (.bool bb) from rfl), q⟩⟩
/-- a != b by an own __eq__ -/
theorem tr_neOwn (M : OwnM X.K (c.C kc) "__eq__" f) (hne : PySem.W.findIn X.K (.ref (c.C kc)) "__ne__" = some (some (.builtin "object.__ne__"))) (hob : PySem.W.mroIn X.K (c.C kc) (.type "object") = some true) (hF : FnG X.prog X.w X.K X.mg X.base k f fd ps (spF c 2 F)) (hb : Binds X.K fd ps []) (hr : RoomG (k + 1) X.A) (tk : Takes X W) (ha : PE X a (TEof c r W ea)) (hbb : PE X b (TEof c r W eb)) :
    PE X (.Compare a [.NotEq] [b] pos) (TRof c r W (rDun2 kc F gNot (isIns kc) ea eb)) := ⟨fun pins st σ H Q I h => by
  refine wpAny_Compare1 (two_run (f2 := compareOp .NotEq) pins_ok ha hbb (fun pins st σ H x y v u Q ads0 G0 H0 I rx ry ⟨⟨a1, dx, gs, e1, hH⟩, ⟨a2, dy, gs2, e2, hH2⟩, sp⟩ => ?_) I h) (nomark _)
  subst e1; subst e2
  obtain rfl := (show v = Value.ref a1 from rx)
  obtain rfl := (show u = Value.ref a2 from ry)
  obtain ⟨ox, od, J⟩ := inst_of I hH
  obtain ⟨ox2, od2, J2⟩ := inst_of I hH2
  obtain ⟨m, fr⟩ := I.fr
  show wpAny _ _ (richCompare .NotEq _ _) _ _ _
  refine ne_K (by have := hr.rm.un; omega) fr I.ok.mod.kin J J2.type (by simp [PySem.W.notFirst]) hne hob M.at_ M.fn ?_
  refine thn (runG0 hF hb (RoomG.in1 hr) (frames_in1 I.ok.frames) (passAt tk σ) I (.cons rx (.cons ry .nil)) sp) fun u s2 ⟨v2, H2, I2, r2, qg⟩ => ?_
  obtain ⟨bb, rfl, q⟩ := qg.bl gNot_bl
  cases r2
  exact ⟨bb, rfl, .bl (!bb), H2, I2, (show RelV (.bl (!bb)) (.bool !bb) from rfl), q⟩⟩
theorem anyY_ok : ∀ ads G H σ env y v, RS c r ads G H σ env → VRep c σ G y v → anyY env y = true → True := fun _ _ _ _ _ _ _ _ _ _ => trivial
/-- a[b] by an own __getitem__ -/
theorem tr_ixOwn (M : OwnM X.K (c.C kc) "__getitem__" f) (hfn : PySem.W.fnIn X.K f = true) (hF : FnG X.prog X.w X.K X.mg X.base k f fd ps (spF c 2 F)) (hb : Binds X.K fd ps []) (hr : RoomG (k + 1) X.A) (tk : Takes X W) (ha : PE X a (TEof c r W ea)) (hbb : PE X b (TEof c r W eb))
    (hsl : ∀ q i, subscripted b true (.ref q) i = runValue (.builtin "lifetime.subscript" ⟨[.ref q, i], []⟩)) : PE X (.Subscript a b pos) (TRof c r W (rDun2 kc F gId anyY ea eb)) := ⟨fun pins st σ H Q I h => by
  refine Subscript_ (two_run (P := fun _ _ => True) (f2 := subscriptTail a b) anyY_ok ha hbb (fun pins st σ H x y v u Q ads0 G0 H0 I rx ry ⟨⟨a1, dx, gs, e1, hH⟩, _, sp⟩ => ?_) I h)
  subst e1
  obtain rfl := (show v = Value.ref a1 from rx)
  obtain ⟨ox, od, J⟩ := inst_of I hH
  obtain ⟨m, fr⟩ := I.fr
  refine PySem.W.sub_K fr I.ok.mod.kin J M.at_ hfn M.fn ?_ (hsl _ _)
  exact thn (runG0 hF hb (RoomG.in1 hr) (frames_in1 I.ok.frames) (passAt tk σ) I (.cons rx (.cons ry .nil)) sp) fun u s2 ⟨v2, H2, I2, r2, qg⟩ => ⟨v2, H2, I2, r2, qg.id⟩⟩
theorem backed {v : V} {u : Value} {s' : Shared} {P : Value → Shared → Prop} (rv : RelV v u) (h : P u s') : PySem.W.CmpBack P u s' := by
  cases u with
  | notImplemented =>
    cases v with
    | non => cases rv
    | bl _ => cases rv
    | ref _ => cases rv
    | ty _ => cases rv
    | int _ => obtain ⟨t, e⟩ := rv; cases e
    | str _ => obtain ⟨t, e⟩ := rv; cases e
    | byt _ => obtain ⟨t, e⟩ := rv; cases e
    | flt _ => obtain ⟨t, e⟩ := rv; cases e
  | _ => exact h
/-- a + b by an own method, both of the class -/
theorem tr_binOwn {op : Operator} (M : OwnM X.K (c.C kc) (PySem.dunder op.info.2) f) (hc : PySem.W.selfFirst X.K (c.C kc) = true) (hF : FnG X.prog X.w X.K X.mg X.base k f fd ps (spF c 2 F)) (hb : Binds X.K fd ps []) (hr : RoomG k X.A) (tk : Takes X W) (ha : PE X a (TEof c r W ea)) (hbb : PE X b (TEof c r W eb)) :
    PE X (.BinOp a op b pos) (TRof c r W (rDun2 kc F gId (isIns kc) ea eb)) := ⟨fun pins st σ H Q I h => by
  refine wpAny_BinOp (two_run (f2 := binaryOp op) pins_ok ha hbb (fun pins st σ H x y v u Q ads0 G0 H0 I rx ry ⟨⟨a1, dx, gs, e1, hH⟩, ⟨a2, dy, gs2, e2, hH2⟩, sp⟩ => ?_) I h)
  subst e1; subst e2
  obtain rfl := (show v = Value.ref a1 from rx)
  obtain rfl := (show u = Value.ref a2 from ry)
  obtain ⟨ox, od, J⟩ := inst_of I hH
  obtain ⟨ox2, od2, J2⟩ := inst_of I hH2
  obtain ⟨m, fr⟩ := I.fr
  refine PySem.W.binop_K fr I.ok.mod.kin J J2.type hc M.at_ M.fn ?_
  exact thn (runG0 hF hb hr I.ok.frames (passAt tk σ) I (.cons rx (.cons ry .nil)) sp) fun u s2 ⟨v2, H2, I2, r2, qg⟩ => backed r2 ⟨v2, H2, I2, r2, qg.id⟩⟩
end
end TreeL
end
section
/-! TL14: repr; class methods; a class that a slot holds, called; properties. -/
namespace TreeL
open PySem PySem.Spec PyProof.Rows L2

/-! ### repr -/
/-- what may be shown -/
def shw (t : PV) : Bool := dat 60 t && (toD t).showable && decide ((toD t).shown.length ≤ LIM) && PyData.strOk (toD t).shown
def reprF : List PV → Option Arg
  | [t] => if shw t then some (.t (.str (toD t).shown)) else none
  | _ => none
mutual
theorem noDict : ∀ t : PV, (toD t).hasDict = false
  | .non => by simp [toD, PyData.hasDict]
  | .bl _ => by simp [toD, PyData.hasDict]
  | .int _ => by simp [toD, PyData.hasDict]
  | .str _ => by simp [toD, PyData.hasDict]
  | .lst xs => by rw [toD, PyData.hasDict]; exact noDicts xs
  | .tup xs => by rw [toD, PyData.hasDict]; exact noDicts xs
  | .ins _ _ => by simp [toD, PyData.hasDict]
  | .dct _ _ => by simp [toD, PyData.hasDict]
  | .scr _ => by simp [toD, PyData.hasDict]
  | .cls _ => by simp [toD, PyData.hasDict]
theorem noDicts : ∀ t : List PV, PyData.hasDictAll (toDs t) = false
  | [] => by simp [toDs, PyData.hasDictAll]
  | x :: xs => by rw [toDs, PyData.hasDictAll, noDict x, noDicts xs]; rfl
end
section
variable {X : Cx} {c : TC}
theorem bu_repr (hK : X.K = c.K) (hg : X.A.guards = some []) (hu : X.A.units + 64 < cLine) : CallQ X c (.builtin "repr") reprF := fun G H ts t vs Q e s p q => by
  unfold reprF at e
  split at e
  · rename_i t0
    obtain ⟨v, rfl, w⟩ := pair1 p
    obtain ⟨hl, rfl⟩ := ite_some e
    unfold shw at hl
    rw [Bool.and_eq_true, Bool.and_eq_true, Bool.and_eq_true] at hl
    obtain ⟨⟨⟨h1, h2⟩, h3⟩, h4⟩ := hl
    have hz : (toD t0).shown.length ≤ LIM := of_decide_eq_true h3
    have gS : StrG (toD t0).shown := ⟨lim_line hz, h4⟩
    obtain ⟨d1, d2, d3⟩ := (w.rep s).dp h1
    refine ⟨fun xs H1 Q1 => xs = [v] ∧ H1 = H ∧ Q1 (.str (toD t0).shown) H, ?_, rfl, rfl, q.t.flat s (rep_str gS)⟩
    intro pins st σ H1 xs us Q1 I rv ⟨e1, e2, q1⟩
    subst e1; subst e2
    obtain ⟨u, rfl, ru⟩ := vals1 rv
    obtain ⟨as, rd⟩ := Dp.reads I (toD t0) v u (by rw [hK]; exact d1) ru
    have fin : ∀ (h' : Heap) (tk : Tok) (k : Nat), (∀ b o, st.heap.get? b = some o → h'.get? b = some o) → EP X pins σ Q1 (.str (toD t0).shown tk) { st with heap := h', toks := k } := fun h' tk k hk => ⟨.str (toD t0).shown, H1, I.kept (t' := k) hk, ⟨_, rfl⟩, q1⟩
    have fin0 : ∀ z : Str, (toD t0).shown = z → EP X pins σ Q1 (.str z st.toks) { st with toks := st.toks + 1 } := fun z ez => by
      rw [← ez]
      exact fin st.heap _ _ fun _ _ e => e
    cases t0 with
    | non => cases w; cases ru; exact PySem.P.repr_of_none (fin0 _ (by simp [toD, PyData.shown]))
    | bl b => cases w; cases ru; exact PySem.P.repr_of_bool (fin0 _ (by simp [toD, PyData.shown]))
    | int i =>
      cases w
      obtain ⟨tk, rfl⟩ := ru
      rw [toD, PyData.showable] at h2
      exact PySem.P.repr_of_int (of_decide_eq_true h2) (fin0 _ (by simp [toD, PyData.shown]))
    | str x =>
      obtain ⟨rfl, _⟩ := w
      obtain ⟨tk, rfl⟩ := ru
      rw [toD, PyData.shown] at hz
      exact PySem.P.repr_of_str (fin0 _ (by simp [toD, PyData.shown])) (lim_line hz)
    | lst xs =>
      obtain ⟨a, ws, rfl, _⟩ := w
      obtain rfl := (show u = Value.ref a from ru)
      exact PySem.repr_of_reads' rd h2 (fun z => by rw [noDict] at z; cases z) hg (by omega) (fun _ _ e => e) (fun h' u tk hk => fin h' u tk hk) (lim_line hz)
    | tup xs =>
      obtain ⟨a, ws, rfl, _⟩ := w
      obtain rfl := (show u = Value.ref a from ru)
      exact PySem.repr_of_reads' rd h2 (fun z => by rw [noDict] at z; cases z) hg (by omega) (fun _ _ e => e) (fun h' u tk hk => fin h' u tk hk) (lim_line hz)
    | ins _ _ => simp [dat] at h1
    | dct _ _ => simp [dat] at h1
    | scr _ => simp [dat] at h1
    | cls _ => simp [dat] at h1
  · cases e
end

/-! ### class methods -/
/-- the def's code, in the context -/
theorem runGc {X : Cx} {k : Nat} {f : Addr} {fd : FuncData} {ps : List Str} {sp : Sp} {E : XK} {dw : List Value} {dvs : List V} (hF : FnG X.prog X.w X.K X.mg X.base k f fd ps sp) (hb : Binds X.K fd ps dw) (hd : Vals dvs dw) (hr : RoomG k X.A) {pins : List (Addr × Obj)} {st : Shared} {σ : L2.St} {H : Hp} {us : List Value} {vs : List V} {Q : VK}
    (hx : PassesAt (L2.CX X.prog X.w) X σ E) (I : Inv X pins σ H st) (rv : Vals vs us) (h : sp (vs ++ dvs) H Q E) :
    codeAny (model X.prog X.w) X.A (.call (.ref f) ⟨us, []⟩) (fun z s' => match z with | .ok (.ret v) => EP X pins σ Q v s' | .ok _ => False | .error e => X.xe e s') st := by
  have rv2 : Vals (vs ++ dvs) (us ++ dw) := rv.append hd
  have hl : (us ++ dw).length = ps.length := by rw [← rv2.length]; exact hF.len _ _ _ _ h
  refine codeAny_mono (hF.run X.A X.stack st H ⟨us, []⟩ _ _ Q E hr I.env0 (hb st us I.kIn hl) rv2 h) fun z s' hq => ?_
  match z, hq with
  | .error e, hq => exact hx pins H st e s' I hq
  | .ok (.ret u), hq => exact I.after hq
  | .ok .next, hq => exact hq.elim
  | .ok .brk, hq => exact hq.elim
  | .ok .cont, hq => exact hq.elim
/-- C.m(..), C the class k -/
def rCls (kc : Nat) (n : Nat) (F : FSem) (ds : List PV) (el : EvA) : EvR := rCall n F ds (fun env => (el env).bind fun xs e => .ok (.tr (.cls kc) :: xs) e)
section
variable {X : Cx} {c : TC} {r : Ref} {W : WX} {F : FSem} {el : EvA} {ea : EvE} {n k kc : Nat} {ds : List PV} {f q : Addr} {mc : Value} {fd : FuncData} {ps : List Str} {x m : Str} {p pos apos : Pos} {a o : Expr} {as : List Expr}
theorem tr_cmeth {pl : Sem Bool} (he : PE X o (tC (.ref (c.C kc)))) (cr : ClX.CRead X.K (c.C kc) mc) (cm : ClX.CMet X.K (c.C kc) mc m q f) (hF : FnG X.prog X.w X.K X.mg X.base k f fd ps (spF c n F)) (hb : Fill c X.K fd ps ds) (hr : RoomG k X.A) (tk : Takes X W) (ha : PA X (a :: as) (TAof c r W el))
    (hst : starEach (a :: as) X.env = (false, eval a X.env) :: starEach as X.env := by rfl) (hpl : (backTo pos (starEach as X.env)).any (·.1) = false := by rfl)
    (ht : eval (.Call (.Attribute o m apos) (a :: as) [] pos) X.env = (do let ov ← eval o X.env; standAt apos.atName; let (g, first) ← holding [ov] (getMethod ov m pl); callWith pos g first (backTo pos (starEach (a :: as) X.env)) (backToKw pos (keywordEach [] X.env))) := by rfl) :
    PE X (.Call (.Attribute o m apos) (a :: as) [] pos) (TRof c r W (rCls kc n F ds el)) := ⟨fun pn st σ Hh Qq J hq => by
  obtain ⟨dvs, dw, h1, h2, h3⟩ := hb.ex
  have hq' : TAof c r W el σ Hh (fun vs H1 => spF c n F (.ref (c.C kc) :: vs ++ dvs) H1 Qq (WE W σ)) := by
    obtain ⟨ads, G, env, R, h⟩ := hq
    refine ⟨ads, G, env, R, Sat_mono (Sat_bind.mp (Sat_bind.mp h)) (fun xs e1 h1 ads1 G1 H1 vs R1 s1 p1 => ?_) fun _ _ z => z⟩
    exact call_core (xs := .tr (.cls kc) :: xs) (vs := .ref (c.C kc) :: vs) R1 s1 ⟨_, _, rfl, by simp [VRep, Rep], p1⟩ h3 h1
  refine PySem.W.methodCall_KW (pl := pl) (thn (he.run pn st σ Hh (fun v H1 => v = .ref (c.C kc) ∧ H1 = Hh) J ⟨rfl, rfl⟩) fun u s1 ⟨v, H1, J1, rv, ev, eh⟩ => ?_) ht
  subst ev; subst eh
  obtain rfl : u = Value.ref (c.C kc) := rv
  refine ClX.getmethcm_ok J1 cr cm fun s2 J2 => ?_
  refine ClX.callwith_cm J2 (ClX.base_none J1 (Nat.le_refl _)) cm.fi (thn (ha.run pos _ s2 σ _ _ J2 hq') fun us s3 ⟨vs, H2, J3, rr, q2⟩ => ⟨⟨ClX.pin_at J3, J3.kIn⟩, ?_⟩) hst hpl
  have z := wpAny_call (PySem.W.method_call (ClX.pin_at J3) (runGc (us := .ref (c.C kc) :: us) (vs := .ref (c.C kc) :: vs) hF h2 h1 hr (passAt tk σ) J3 (.cons rfl rr) q2))
  exact thn z fun _ _ y => ClX.unpinE y⟩

/-! ### a class that a slot holds -/
/-- x(..), x the slot i -/
def rMakeV (i : Nat) (kc : Nat) (n : Nat) (F : FSem) (ds : List PV) (el : EvA) : EvR := fun env => match env[i]? with
  | some (some (.t (.cls k))) => if k = kc then rMake kc n F ds el env else .bad
  | _ => .bad
theorem tr_makeV {i : Nat} (M : Mk X.K (c.C kc) f) (hF : FnG X.prog X.w X.K X.mg X.base k f fd ps (spF c n F)) (hb : Fill c X.K fd ps ds) (hr : RoomG (k + 1) X.A) (tk : Takes X W) (hv : PE X (.Name x p) (tVar i))
    (ha : PA X (a :: as) (TAof c r W el)) (he : starEach (a :: as) X.env = (false, eval a X.env) :: starEach as X.env := by rfl) (hpl : (backTo pos (starEach as X.env)).any (·.1) = false := by rfl) :
    PE X (.Call (.Name x p) (a :: as) [] pos) (TRof c r W (rMakeV i kc n F ds el)) := ⟨fun pn st σ Hh Qq J hq => by
  obtain ⟨dvs, dw, h1, h2, h3⟩ := hb.ex
  obtain ⟨ads, G, env, R, h⟩ := hq
  simp only [rMakeV] at h
  cases q : env[i]? with
  | none => simp only [q] at h; exact h.elim
  | some u =>
    cases u with
    | none => simp only [q] at h; exact h.elim
    | some u =>
      cases u with
      | ow _ => simp only [q] at h; exact h.elim
      | t t =>
        cases t with
        | cls k =>
          simp only [q] at h
          by_cases e : k = kc
          · subst e
            rw [if_pos rfl] at h
            have sl := R.slot i
            rw [q] at sl
            cases w : σ[i]?.join with
            | none => rw [w] at sl; exact (show False from sl).elim
            | some v =>
              rw [w] at sl
              have hvv : v = .ref (c.C k) := by have z := sl.2; simp only [Rep] at z; exact z
              subst hvv
              have z := make_imp (dvs := dvs) h3 (W := W) (show TRof c r W (rMake k n F ds el) σ Hh Qq from ⟨ads, G, env, R, h⟩)
              refine wpAny_Call_Name_kw (thn (hv.run pn st σ Hh (fun v H1 => v = .ref (c.C k) ∧ H1 = Hh) J ⟨_, Option.join_eq_some_iff.mp w, rfl, rfl⟩) fun u s1 ⟨v, H1, J1, rv, ev, eh⟩ => ?_)
              subst ev; subst eh
              obtain rfl : u = Value.ref (c.C k) := rv
              refine PySem.W.callWith_K (h₀ := X.base) J1.ok.mod.kin M.kp (thn (ha.run pos pn s1 σ _ _ J1 z) fun us s2 ⟨vs, H2, J2, rr, q2⟩ => ⟨J2.kIn, ?_⟩) he hpl
              exact makeRun M hF hr h2 h1 (passAt tk σ) J2 rr q2
          · rw [if_neg e] at h; exact h.elim
        | _ => simp only [q] at h; exact h.elim⟩

end
end TreeL
end
section
/-! TL15: the law's own def, called from the top; the head's facts. -/
namespace TreeL
open PySem PySem.Spec PyProof.Rows L2

/-! ### the law's def -/
section
variable {P : Program} {w : World} {K : PySem.W.Frag} {mg mb : Str → Option Value} {k : Nat} {g a : Addr} {fd : FuncData} {x : Str} {c : TC} {F : FSem} {t : Shared} {vs : List Value} {ns : List Int}
/-- the law, at a heap in which nothing but the script may be tracked -/
theorem lawAt (H : Hp) (hO : Only H) (hS : SqL K H a (ns.map V.int)) (hok : HOk P w H t.heap) (one : ∀ b, H b ≠ none → b = a) (notK : H a ≠ none → K.lookup a = none) (kin : K.In t.heap) (hns : t.heap.Ns mainGlobals mg) (hb : t.heap.Ns builtinsNs mb) (hbb : ∀ y : Str, y ≠ "__name__" → mb y = bootBuiltins y) (hlim : t.heap.NoLimit) (hgn : t.gens = #[])
    (ha : t.heap.get? a = some { cls := .type "list", data := .seq vs.toArray }) (hr : RoomG k callerA) (hF : ∀ base : Heap, K.In base → base.Ns mainGlobals mg → FnG P w K mg base k g fd [x] (spF c 1 F)) (hbind : ∀ (st : Shared) (u : Value), BindsTo st fd ⟨[u], []⟩ [(x, u)]) (hc : c.K = K) (hf : ∃ as, F [.t (.scr ns)] = .ret (.t (.bl true)) as) :
    codeAny (model P w) callerA (.call (.ref g) ⟨[.ref a], []⟩) (fun z t' => z = .ok (.ret (.bool true)) ∧ OldK t.heap t'.heap ∧ t'.os = t.os ∧ AllBare t'.gens) t := by
  have sink : ∀ {b : Addr} {o : Obj}, t.heap.get? b = some o → H b = none → (hidT t.heap H).get? b = some o := fun e n => hidT_get e n
  have free : ∀ {b : Addr} {o : Obj}, t.heap.get? b = some o → (∀ its n, o.data ≠ .seq its n) → H b = none := fun {b o} e d => by
    cases q : H b with
    | none => rfl
    | some u =>
      have e' : b = a := one b (by rw [q]; simp)
      subst e'
      rw [ha] at e
      cases e
      exact absurd rfl (d _ _)
  have nsOf : ∀ {b : Addr} {m : Str → Option Value}, t.heap.Ns b m → (hidT t.heap H).Ns b m := fun {b m} ⟨o, es, ep, e, d, z⟩ => ⟨o, es, ep, sink e (free e fun its n y => by rw [d] at y; cases y), d, z⟩
  have kinB : K.In (hidT t.heap H) := fun b o e => sink (kin b o e) (by
    cases q : H b with
    | none => rfl
    | some u =>
      have e' : b = a := one b (by rw [q]; simp)
      subst e'
      rw [notK (by rw [q]; simp)] at e
      cases e)
  obtain ⟨mc, l1, l2⟩ := hlim
  have e0 : Env0 P w K mg (hidT t.heap H) callerA [] t H :=
    { frames := rfl, mod := ⟨kinB, nsOf hns, ⟨mb, nsOf hb, hbb⟩, ⟨mc, nsOf l1, l2⟩⟩, bs := fun b o e => of_hidT e, bsz := Nat.le_of_eq (hidT_size _ _), funs := trivial, frf := (fun b z => nomatch z), hok := hok, bare := .of_eq hgn }
  obtain ⟨as, hf⟩ := hf
  -- what is known for good: the script alone
  have sp : spF c 1 F [.ref a] H (fun v _ => v = .bl true) fun _ _ _ => False := by
    let G0 : Hp := fun b => if b = a then H b else none
    have g1 : ∀ b, b = a → G0 b = H b := fun b z => if_pos z
    have g2 : ∀ b, b ≠ a → G0 b = none := fun b z => if_neg z
    refine ⟨rfl, G0, [.t (.scr ns)], [[]], fun b o e => ?_, ⟨⟨rfl, ?_⟩, trivial⟩, fun i j y h1 h2 => ?_, (fun b z => by simp at z), ?_⟩
    · by_cases z : b = a
      · rw [g1 b z] at e; exact e
      · rw [g2 b z] at e; cases e
    · simp only [Rep]
      refine ⟨a, rfl, ?_⟩
      rw [hc]
      rcases hS with (z | ⟨o, z⟩) | z
      · exact .inl (.inl (by rw [g1 a rfl]; exact z))
      · exact .inl (.inr ⟨o, by rw [g1 a rfl]; exact z⟩)
      · exact .inr z
    · cases i <;> simp at h1
    · rw [hf]
      intro H' G' v st rr ar
      exact rr
  refine codeAny_mono ((hF _ kinB (nsOf hns)).run callerA [] t H ⟨[.ref a], []⟩ [.ref a] [.ref a] _ _ hr e0 (hbind t (.ref a)) (.cons rfl .nil) sp) fun z t' h => ?_
  match z, h with
  | .error e, h =>
    obtain ⟨_, _, _, _, _, _, _, _, _, _, _, _, bad⟩ := h
    exact bad.elim
  | .ok .next, h => exact h.elim
  | .ok .brk, h => exact h.elim
  | .ok .cont, h => exact h.elim
  | .ok (.ret u), h =>
    obtain ⟨v, H', os, bare, un, hok', rv, q⟩ := h
    have q' : v = .bl true := q
    subst q'
    obtain rfl : u = Value.bool true := rv
    refine ⟨rfl, OldK.of_keep fun b o e => ?_, os, bare⟩
    cases q : H b with
    | none => exact un.keep b o e q (fun z => nomatch z) (fun z => nomatch z)
    | some u =>
      rcases hO b with z | ⟨ob, xs, z⟩
      · rw [q] at z; cases z
      · obtain ⟨e1, _⟩ := hok b _ z
        obtain ⟨e2, _⟩ := hok' b _ (un.frzs b ob _ z)
        rw [e] at e1
        cases e1
        exact e2
theorem lawCall (kin : K.In t.heap) (hns : t.heap.Ns mainGlobals mg) (hb : t.heap.Ns builtinsNs mb) (hbb : ∀ y : Str, y ≠ "__name__" → mb y = bootBuiltins y) (hlim : t.heap.NoLimit) (hgn : t.gens = #[]) (ha : t.heap.get? a = some { cls := .type "list", data := .seq vs.toArray }) (hi : IntsAre vs ns) (hl : ns.length ≤ sizeLine) (hr : RoomG k callerA)
    (hF : ∀ base : Heap, K.In base → base.Ns mainGlobals mg → FnG P w K mg base k g fd [x] (spF c 1 F)) (hbind : ∀ (st : Shared) (u : Value), BindsTo st fd ⟨[u], []⟩ [(x, u)]) (hc : c.K = K) (hf : ∃ as, F [.t (.scr ns)] = .ret (.t (.bl true)) as) :
    codeAny (model P w) callerA (.call (.ref g) ⟨[.ref a], []⟩) (fun z t' => z = .ok (.ret (.bool true)) ∧ OldK t.heap t'.heap ∧ t'.os = t.os ∧ AllBare t'.gens) t := by
  have rv := vals_ints hi
  have lv := hi.length
  cases hk : K.lookup a with
  | some o =>
    have e := kin a o hk
    rw [ha] at e
    cases e
    exact lawAt (fun _ => none) (fun _ => .inl rfl) (.inr ⟨_, vs.toArray, _, hk, rfl, rfl, rfl, by rw [List.size_toArray, lv]; exact hl, by simpa using rv⟩) (fun b u z => nomatch z) (fun b z => absurd rfl z) (fun z => absurd rfl z) kin hns hb hbb hlim hgn ha hr hF hbind hc hf
  | none =>
    let H0 : Hp := fun b => if b = a then some (.frz { cls := .type "list", data := .seq vs.toArray } (.lst (ns.map V.int))) else none
    have at_a : H0 a = some (.frz { cls := .type "list", data := .seq vs.toArray } (.lst (ns.map V.int))) := if_pos rfl
    have off : ∀ b, b ≠ a → H0 b = none := fun b z => if_neg z
    refine lawAt H0 (fun b => ?_) (.inl (.inr ⟨_, at_a⟩)) (fun b u z => ?_) (fun b z => ?_) (fun _ => hk) kin hns hb hbb hlim hgn ha hr hF hbind hc hf
    · by_cases z : b = a
      · rw [z]; exact .inr ⟨_, _, at_a⟩
      · exact .inl (off b z)
    · by_cases y : b = a
      · subst y
        rw [at_a] at z
        cases z
        exact ⟨ha, by rw [List.length_map]; exact hl, vs, _, rv, ha⟩
      · rw [off b y] at z; cases z
    · by_cases y : b = a
      · exact y
      · exact absurd (off b y) z
end
/-- the law over a head by facts -/
theorem walkG {l : PySem.W.OpenLaw} {n k : Nat} {q : Program} {loose : List Str} {XP : (Str → Option Value) → Heap → Prop} {YP : World → Heap → Prop} {d : DefRec} {x : Str} (hn : l.most = some n) (hn2 : n ≤ sizeLine) (hdf : d.params.defaults = []) (hr : RoomG k callerA)
    (hY : ∀ (w : World) (mg : Str → Option Value) (fa : Addr) (h : Heap), YP w h → h.Ns mainGlobals mg → mg d.name = some (.ref fa) → ∃ (K : PySem.W.Frag) (fd : FuncData) (c : TC) (F : FSem), K.In h ∧ (∀ (st : Shared) (u : Value), BindsTo st fd ⟨[u], []⟩ [(x, u)]) ∧ c.K = K ∧
      (∀ ns : List Int, ns.length ≤ n → ∃ as, F [.t (.scr ns)] = .ret (.t (.bl true)) as) ∧ ∀ base : Heap, K.In base → base.Ns mainGlobals mg → FnG l.prog w K mg base k fa fd [x] (spF c 1 F)) :
    PySem.W.WalkO q loose XP YP l.row.toRowW d [] (fun f vs => PySem.call f vs) := by
  refine Att.attach_call hn hdf fun w s0 t mg mb fa o pm cd doc a vs ns G Y ho hd hcd hmg hobj hints hlen hg => ?_
  obtain ⟨K, fd, c, F, kin, hb, hc, hf, hF⟩ := hY w mg fa _ Y G.T.g hmg
  exact lawCall kin G.T.g G.T.b G.T.builtins G.T.nolimit hg hobj hints (Nat.le_trans hlen hn2) hr hF hb hc (hf ns hlen)
theorem room_top {k : Nat} (h : Room k callerA) : RoomG k callerA := ⟨h, rfl⟩
end TreeL
end
section
/-! TL16: enumerate over tuples, names, the head's facts. -/
namespace TreeL
open PySem PySem.Spec PyProof.Rows L2
set_option maxHeartbeats 4000000 in
theorem meets_enum_new1 {v : Value} {o : Obj} {H : Heap → Prop} (B : Begins v o H) :
    Meets (Builtin.«enumerate.__new__» ⟨[.type "enumerate", v], []⟩) (fun _ R s => H s.heap ∧
      R (.ok (.ret (.ref (s.heap.push o).objs.size))) { s with heap := (s.heap.push o).push { cls := .type "enumerate", data := .fields #[.none, .bool false, .ref s.heap.objs.size, rawInt 0, .none, .none] } }) :=
  .of_wp fun prog w A R s h => by
    obtain ⟨hp, g, d, tk, os⟩ := s; obtain ⟨h1, h⟩ := h
    have hsub := sub_enumerate
    have q1 : ∀ {A' : Around} {E : Value → Shared → Prop} {Q : Value → Shared → Prop}, Q (.ref hp.objs.size) ⟨hp.push o, g, d, tk, os⟩ → wpAny (model prog w) A' (pyIter v) Q E ⟨hp, g, d, tk, os⟩ :=
      fun q => B.iter prog w _ _ ⟨hp, g, d, tk, os⟩ _ h1 q
    wp_walk using q1
    refine wpAny_stack_any fun st => wpAny_pure ?_
    split
    · rename_i c _ _ _ _ _
      cases (c == Value.type "enumerate")
      · wp_walk using q1
        exact ⟨_, rfl, h⟩
      · wp_walk using q1
        exact ⟨_, rfl, h⟩
    · wp_walk using q1
      exact ⟨_, rfl, h⟩
section
variable {prog : Program} {w : World} {A : Around} {E : Value → Shared → Prop} {s : Shared}
theorem enum_begins1 {v : Value} {o : Obj} {H : Heap → Prop} {Q : Value → Shared → Prop} (B : Begins v o H) (h1 : H s.heap)
    (h : ∀ h', IsEnum h' (s.heap.objs.size + 1) s.heap.objs.size 0 .none → h'.get? s.heap.objs.size = some o → h'.objs.size = s.heap.objs.size + 2 →
      (∀ b o, s.heap.get? b = some o → h'.get? b = some o) → Q (.ref (s.heap.objs.size + 1)) { s with heap := h' }) :
    wpAny (model prog w) A (call (.type "enumerate") [v]) Q E s := by
  refine callType_new F.called_enumerate (by decide) (F.typeCall_enumerate_1 _) (F.newCall_enumerate_1 _) (fun obj => F.args_object_init_2 obj _) F.entry_enumerate_new
    (meets_enum_new1 B) ⟨h1, ?_⟩
  have hz : (s.heap.push o).objs.size = s.heap.objs.size + 1 := Heap.size_push ..
  show _ ∧ _
  rw [hz]
  have he : IsEnum ((s.heap.push o).push { cls := .type "enumerate", data := .fields #[.none, .bool false, .ref s.heap.objs.size, rawInt 0, .none, .none] }) (s.heap.objs.size + 1) s.heap.objs.size 0 .none := by
    have := Heap.get?_push_size (s.heap.push o) (o := { cls := .type "enumerate", data := .fields #[.none, .bool false, .ref s.heap.objs.size, rawInt 0, .none, .none] }) rfl
    rw [hz] at this; exact this
  refine ⟨⟨_, he, rfl⟩, h _ he (Heap.get?_push_of_some _ (Heap.get?_push_size _ B.free)) (by rw [Heap.size_push, hz]) fun b o x => Heap.get?_push_of_some _ (Heap.get?_push_of_some _ x)⟩
end
def IteT (K : PySem.W.Frag) (a : Addr) : It :=
  ⟨fun i H => ∃ (xs : List V) (x : V), SqT K H a xs ∧ xs[i]? = some x, fun i H v H' => ∃ T x, v = .ref T ∧ H T = none ∧ H' = upd H T (.tup [.int (i : Nat), x]) ∧ ∀ xs, SqT K H a xs → xs[i]? = some x, fun i H => ∃ xs : List V, SqT K H a xs ∧ xs.length ≤ i⟩
theorem wpAny_pyNext_enum_endT {prog : Program} {w : World} {A : Around} {E : Value → Shared → Prop} {s : Shared} {e it l : Addr} {i : Nat} {j : Int} {items : Array Value} {old : Value} {Q : Option Value → Shared → Prop} (hh : A.handled = none)
    (he : IsEnum s.heap e it j old) (hit : s.heap.IsTupleIter it l i) (hl : s.heap.IsTuple l items) (hx : items[i]? = none)
    (hQ : ∀ h', Heap.ExtBut it s.heap h' → Q none { s with heap := h' }) : wpAny (model prog w) A (pyNext (.ref e)) Q E s := by
  have hT : s.TypeIs (.ref e) "enumerate" := ⟨_, he, rfl⟩
  unfold pyNext
  refine wpAny_bind (wpAny_attempt (wpAny_callSpecial?_slot (name := Str.ofString "__next__") hT F.slot_enumerate_next
    (wpAny_call_entry F.slot_enumerate_next hT F.entry_enumerate_next ?_ (F.args_enumerate_next_1 _))))
  show wpAny _ _ (field (.ref e) 2 >>= _) _ _ _
  refine wpAny_bind (wpAny_field he rfl (x := .ref it) rfl ?_)
  refine wpAny_bind (wpAny_nextOf_tuple_end hh hit hl hx fun h' x he' hx' => ?_)
  obtain ⟨o, ho, hc⟩ := hx'
  refine wpAny_bind (wpAny_isInstance (T := "StopIteration") (b := true) ⟨o, ho, hc⟩ isSubtype_stop ?_)
  exact wpAny_pure (hQ _ he')
theorem turn_enumT {P : Program} {w : World} {K : PySem.W.Frag} {elts : List Expr} {kk : Nat} {tpos : Pos} (a e it : Addr) :
    Turn P w K (.Tuple elts kk tpos) (IteT K a) [e, it] e (fun i h => (∃ old, IsEnum h e it ((i : Nat) : Int) old) ∧ h.IsTupleIter it a i ∧ e ≠ it ∧ e ≠ a ∧ a ≠ it) where
  mem := by simp
  obj := fun i h st b hb => by
    obtain ⟨⟨old, he⟩, ⟨o, ho, hc, hd⟩, _⟩ := st
    have e' : b = e ∨ b = it := by simpa using hb
    rcases e' with z | z
    · rw [z]; exact ⟨_, he, fun v q => nomatch q⟩
    · rw [z]; exact ⟨o, ho, fun v q => by rw [hd] at q; cases q⟩
  keep := fun i h h' st k => let ⟨⟨old, he⟩, hi, hne⟩ := st; ⟨⟨old, k e (by simp) _ he⟩, hi.at fun o q => k it (by simp) o q, hne⟩
  item := by
    intro X hP hw hK hc i pins s σ H E I hf st hg
    subst hP hw hK
    obtain ⟨⟨old, he⟩, hit, hne, hea, hai⟩ := st
    obtain ⟨xs, x, hq, hx⟩ := hg
    obtain ⟨its, rv, p, hz⟩ := I.tuple hq
    obtain ⟨u, hu, ru⟩ := rv.get hx
    have hel : e < s.heap.objs.size := Heap.lt_size he
    have hil : it < s.heap.objs.size := by obtain ⟨_, q, _⟩ := hit; exact Heap.lt_size q
    have hlt : i < its.toArray.size := by
      have z := (List.getElem?_eq_some_iff.mp hu).1
      simpa using z
    refine wpAny_pyNext_enum_itemD (Draws.tuple (by first | exact I.ok.hd hc | exact (I.ok.hd hc)) it a hai its.toArray) he ⟨hit, p⟩ hlt hne (by simp [hne, hea]) fun y h' tk hy ho st' hT hsz hk => ?_
    have eu : y = u := by
      have : its[i]? = some y := by simpa using hy
      rw [hu] at this; cases this; rfl
    subst eu
    refine ⟨_, rfl, wpAny_letOwnedTupleGo_enum (s := { s with heap := h', toks := tk + 1 }) ho fun h'' he' sb => ?_⟩
    have hT2 : h''.get? s.heap.objs.size = some { cls := .type "tuple", data := .seq #[.int i tk, y] } := (sb.2 _ (Nat.ne_of_gt hel)).trans hT
    have new : ObjOk X.prog X.w (upd H s.heap.objs.size (.tup [.int (i : Nat), x])) h'' s.heap.objs.size (.tup [.int (i : Nat), x]) :=
      ⟨by show 2 ≤ sizeLine; decide, [.int i tk, y], .cons ⟨_, rfl⟩ (.cons ru .nil), ⟨_, hT2, rfl, _, rfl⟩⟩
    have I1 : Inv X pins σ (upd H s.heap.objs.size (.tup [.int (i : Nat), x])) { s with heap := h'', toks := tk + 1 } :=
      I.turnedNew (ch := [e, it]) (fun b ob hb q => (sb.2 b (fun z => hb (by simp [z]))).trans (hk b ob (fun z => hb (by simp [z])) (fun z => hb (by simp [z])) q)) hf (Nat.le_refl _) new
    refine ⟨.ref s.heap.objs.size, _, I1, rfl, ⟨_, x, rfl, I.hok.fresh (Nat.le_refl _), rfl, fun ys hy => by rw [I.tuple_inj hy hq]; exact hx⟩, ⟨⟨y, ?_⟩, st'.1.at fun o q => (sb.2 it (Ne.symm hne)).trans q, hne, hea, hai⟩, fun b hb => ?_⟩
    · have e1 : ((i + 1 : Nat) : Int) = (i : Int) + 1 := by omega
      rw [e1]; exact he'
    · have hb' : b < s.heap.objs.size := by
        have e' : b = e ∨ b = it := by simpa using hb
        rcases e' with z | z
        · rw [z]; exact hel
        · rw [z]; exact hil
      rw [upd_ne (Nat.ne_of_lt hb')]
      exact (hf b hb).1
  done := by
    intro X hP hw hK hc i pins s σ H E I hf st hg
    subst hP hw hK
    obtain ⟨⟨old, he⟩, hit, hne, hea, hai⟩ := st
    obtain ⟨xs, hq, hx⟩ := hg
    obtain ⟨its, rv, p, hz⟩ := I.tuple hq
    obtain ⟨f0, f1, f2, f3, f4, f5⟩ := hf it (by simp)
    have hl := rv.length
    exact wpAny_pyNext_enum_endT (I.ok.hd hc) he hit p (by simp; omega) fun h' eb => ⟨rfl, I.turned (t' := s.toks) (fun b o hb q => eb b o hb q) f0 f1 f3 f4 f5⟩
  self := fun A i s Q E st h => let ⟨⟨_, he⟩, _⟩ := st; wpAny_pyIter_enum he h
def iEnumT (K : PySem.W.Frag) (ta : TA) : TI := fun σ H R => ta σ H fun vs H1 => ∃ a xs, vs = [.ref a] ∧ SqT K H1 a xs ∧ R (IteT K a) H1
theorem pi_enumT {X : Cx} {e : Expr} {ta : TA} {p pos tpos : Pos} {elts : List Expr} {kk : Nat} (hg : Gl X "enumerate") (hm : X.mg "enumerate" = none) (ha : PA X [e] ta) (hs : starEach [e] X.env = [(false, eval e X.env)] := by rfl) :
    PI X (.Tuple elts kk tpos) (.Call (.Name "enumerate" p) [e] [] pos) (iEnumT X.K ta) := by
  refine ⟨fun pins s σ H R I h => ?_⟩
  refine Call_ (ld_blt I hg hm boot_enumerate (PyProof.Rows.callWith_type1 (thn (ha.run pos pins s σ H _ I h) fun us s1 ⟨vs, H1, I1, r1, q1⟩ => ?_) hs rfl))
  obtain ⟨a, xs, ex, hq, q⟩ := q1
  subst ex
  cases r1 with
  | cons r rr =>
    cases rr
    cases r
    obtain ⟨its, rv, p', hz⟩ := I1.tuple hq
    have ha : a < s1.heap.objs.size := by obtain ⟨o, q, _⟩ := p'; exact Heap.lt_size q
    refine enum_begins1 (begins_tuple a its.toArray) p' fun h' he hit hsz hk => wpAny_pyIter_enum he ?_
    have I2 : Inv X pins σ H1 { s1 with heap := h' } := I1.kept (t' := s1.toks) hk
    refine ⟨s1.heap.objs.size + 1, [s1.heap.objs.size + 1, s1.heap.objs.size], _, _, H1, rfl, I2, turn_enumT a (s1.heap.objs.size + 1) s1.heap.objs.size, ⟨⟨.none, he⟩, ⟨_, hit, rfl, rfl⟩, Nat.succ_ne_self _, Nat.ne_of_gt (Nat.lt_succ_of_lt ha), Nat.ne_of_lt ha⟩, fun b hb => ?_, q⟩
    have e' : b = s1.heap.objs.size + 1 ∨ b = s1.heap.objs.size := by simpa using hb
    have hle : s1.heap.objs.size ≤ b := by
      rcases e' with z | z
      · rw [z]; exact Nat.le_add_right _ _
      · rw [z]; exact Nat.le_refl _
    exact I1.fpOk hle (I1.hok.fresh hle)
section
variable {X : Cx} {c : TC} {r : Ref} {W : WX} {tg e a b : Expr} {ea : EvE} {el : EvA} {pos p : Pos}
theorem itok_enumT {G : Hp} {p : Addr} {x : Vl} {ts : List PV} {vs : List V} (h : SqT c.K G p vs) (rr : RepL c G ts vs) : ItOk c r G x (enumL 0 ts) (IteT c.K p) := fun i ads G' H σ env R s1 _ => by
  have h' : SqT c.K H p vs := R.sub.sqT (s1.sqT h)
  refine ⟨fun t ht => ?_, fun hl => ⟨vs, h', by rw [rr.length]; rw [enumL_len] at hl; exact hl⟩⟩
  rw [enumL_get] at ht
  obtain ⟨t0, h0, rfl⟩ := map_some ht
  obtain ⟨u, hu, ru⟩ := rr.get h0
  refine ⟨⟨vs, u, h', hu⟩, fun v H' ⟨T, w, e1, hT, e2, y⟩ => ?_⟩
  subst e1; subst e2
  have z := y vs h'
  rw [hu] at z; cases z
  have q := rep_pair (x := .int ((0 + i : Nat) : Int)) (u := .int ((i : Nat) : Int)) R.sub hT (by rw [Nat.zero_add]; exact rep_int G') (ru.mono s1)
  exact ⟨_, q⟩
/-- enumerate over a list or a tuple -/
@[simp] def iEnumS (el : EvA) : EvI := fun env => (el env).bind fun xs e => match trees xs with
  | some [.lst ts] => .ok ⟨enumL 0 ts, .tr .non⟩ e
  | some [.tup ts] => .ok ⟨enumL 0 ts, .tr .non⟩ e
  | _ => .bad
theorem ti_enumS {elts : List Expr} {kk : Nat} {tpos : Pos} (hK : X.K = c.K) (hg : Gl X "enumerate") (hm : X.mg "enumerate" = none) (ha : PA X [e] (TAof c r W el)) (hs : starEach [e] X.env = [(false, eval e X.env)] := by rfl) : PI X (.Tuple elts kk tpos) (.Call (.Name "enumerate" p) [e] [] pos) (TIof c r W (iEnumS el)) := by
  refine PI.imp (PI.or (pi_enum hg hm ha hs) (pi_enumT hg hm ha hs)) fun σ H R ⟨ads, G, env, R0, h⟩ => ?_
  have h' := Sat_bind.mp h
  cases q : el env with
  | bad => rw [q] at h'; exact h'.elim
  | exc x e1 =>
    rw [q] at h'
    exact .inl ⟨ads, G, env, R0, by rw [q]; exact h'⟩
  | ok xs e1 =>
    rw [q, RE.Sat] at h'
    cases q2 : trees xs with
    | none => rw [q2] at h'; exact h'.elim
    | some ts =>
      rw [q2] at h'
      rcases ts with _ | ⟨t, _ | ⟨t2, rest⟩⟩
      · exact h'.elim
      · have lstC : ∀ us, t = .lst us → (iEnum X.K (TAof c r W el) σ H R ∨ iEnumT X.K (TAof c r W el) σ H R) := fun us et => by
          subst et
          refine .inl ⟨ads, G, env, R0, ?_⟩
          rw [q]
          intro ads1 G1 H1 vs R1 s1 p1
          obtain ⟨v, u, rfl, rv, ru⟩ := trees_rep p1 q2
          cases ru
          simp only [Rep] at rv
          obtain ⟨a, ws, rfl, hx, rw⟩ := rv
          exact ⟨a, ws, rfl, .inl (.inl (R1.sub _ _ hx)), h' ads1 G1 H1 _ R1 s1 (itok_enum hx rw)⟩
        have tupC : ∀ us, t = .tup us → (iEnum X.K (TAof c r W el) σ H R ∨ iEnumT X.K (TAof c r W el) σ H R) := fun us et => by
          subst et
          refine .inr ⟨ads, G, env, R0, ?_⟩
          rw [q]
          intro ads1 G1 H1 vs R1 s1 p1
          obtain ⟨v, u, rfl, rv, ru⟩ := trees_rep p1 q2
          cases ru
          simp only [Rep] at rv
          obtain ⟨a, ws, rfl, hx, rw⟩ := rv
          refine ⟨a, ws, rfl, ?_, ?_⟩
          · rw [hK]; exact R1.sub.sqT hx
          · rw [hK]; exact h' ads1 G1 H1 _ R1 s1 (itok_enumT hx rw)
        cases t with
        | lst us => exact lstC us rfl
        | tup us => exact tupC us rfl
        | _ => exact h'.elim
      · cases t <;> exact h'.elim
end
end TreeL
end
section
/-! TL17: the head's facts as one list of Bools over the fragment, their readings. -/
namespace TreeL
open PySem PySem.Spec PyProof.Rows L2
/-! ### the Hook: Bools and defs -/
def obsT (fs : List (PySem.W.Frag → Bool)) (fn : List He5.DefA) (K : PySem.W.Frag) : He.AlD := ((fs.all fun f => f K) && fn.all fun d => d.ok K, fn.map fun d => He5.fnA K (d.at_ K))
def valT (fn : List He5.DefA) : He.AlD := (true, fn.map He5.DefA.val)
def SaysT (fs : List (PySem.W.Frag → Bool)) (fn : List He5.DefA) (K : PySem.W.Frag) : Prop := obsT fs fn K = valT fn
def obsTG (n : Nat) (fs : List (PySem.W.Frag → Bool)) (fn : List He5.DefA) (g : Addr → Option Obj) : He.AlD := obsT fs fn (He.frG g (He5.asA g n))
def hookT (n : Nat) (fs : List (PySem.W.Frag → Bool)) (fn : List He5.DefA) : PySem.W.Hook where
  α := He.AlD
  obs := fun s => obsTG n fs fn s.heap.get?
  val := fun _ => valT fn
  says := fun _ h => ∃ K : PySem.W.Frag, K.In h ∧ SaysT fs fn K
  of := fun _ _ e => ⟨_, He.frG_in, e⟩
  keeps := fun _ _ _ ⟨K, hK, c⟩ k => ⟨K, PySem.W.Frag.In.keeps hK k, c⟩
theorem obsTG_eq {n : Nat} {fs : List (PySem.W.Frag → Bool)} {fn : List He5.DefA} {g : Addr → Option Obj} {s : Shared} (h : ∀ a, g a = s.heap.get? a) : obsTG n fs fn g = (hookT n fs fn).obs s := by
  have e : g = s.heap.get? := funext h
  rw [e] <;> rfl
section
variable {fs : List (PySem.W.Frag → Bool)} {fn : List He5.DefA} {K : PySem.W.Frag}
theorem SaysT.fact (c : SaysT fs fn K) (i : Nat) {f : PySem.W.Frag → Bool} (h : fs[i]? = some f := by rfl) : f K = true := by
  have c1 := (He.ba (show ((fs.all fun f => f K) && fn.all fun d => d.ok K) = true from congrArg (fun z : He.AlD => z.1) c)).1
  exact List.all_eq_true.mp c1 f (List.mem_of_getElem? h)
theorem SaysT.def_ (c : SaysT fs fn K) (i : Nat) {d : He5.DefA} (h : fn[i]? = some d := by rfl) : ∃ fd, FunD K d.name d.qual d.params d.body d.scope (d.dvs K) (d.kws K) (d.at_ K) fd := by
  have c2 := (He.ba (show ((fs.all fun f => f K) && fn.all fun d => d.ok K) = true from congrArg (fun z : He.AlD => z.1) c)).2
  have e : fn.map (fun d => He5.fnA K (d.at_ K)) = fn.map He5.DefA.val := congrArg (fun z : He.AlD => z.2) c
  have e2 : (fn.map fun d => He5.fnA K (d.at_ K))[i]? = (fn.map He5.DefA.val)[i]? := by rw [e]
  rw [List.getElem?_map, List.getElem?_map, h] at e2
  exact He5.DefA.funD (Option.some.inj e2) (List.all_eq_true.mp c2 d (List.mem_of_getElem? h))
end
/-! ### facts -/
/-- the classes' numbers: places in the list of names -/
def tcN (K : PySem.W.Frag) (cs : List Str) : TC := ⟨fun i => He.ga K (cs.getD i Str.empty), K⟩
inductive Tgt where
  | ty (n : String) | own (i : Nat)
def Tgt.val (c : TC) : Tgt → Value
  | .ty n => .type n
  | .own i => .ref (c.C i)
def Tgt.v (c : TC) : Tgt → V
  | .ty n => .ty n
  | .own i => .ref (c.C i)
theorem Tgt.cls (c : TC) : ∀ t : Tgt, ClsV (t.v c) (t.val c)
  | .ty n => .ty n
  | .own i => .own _
def kinds (ks : List Nat) : List Kd := [.non, .bl, .int, .str, .lst, .tup, .dct] ++ ks.map .ins
@[simp] def tbY (yes : List Kd) : Kd → Option Bool
  | .other => none
  | d => some (yes.contains d)
def isiB (cs : List Str) (ks : List Nat) (yes : List Kd) (ts : List Tgt) (K : PySem.W.Frag) : Bool := (kinds ks).all fun d => decide (PySem.W.kitAny K (tyVal (tcN K cs) d) (ts.map (Tgt.val (tcN K cs))) = tbY yes d)
theorem isiB_ok {cs : List Str} {ks : List Nat} {yes : List Kd} {ts : List Tgt} {K : PySem.W.Frag} (h : isiB cs ks yes ts K = true) : ∀ d b, (∀ k, d = .ins k → ks.contains k = true) → tbY yes d = some b → PySem.W.kitAny (tcN K cs).K (tyVal (tcN K cs) d) (ts.map (Tgt.val (tcN K cs))) = some b := by
  intro d b hk e
  have h1 := List.all_eq_true.mp h
  have m : d ∈ kinds ks := by
    unfold kinds
    cases d with
    | ins k => exact List.mem_append_right _ (List.mem_map_of_mem (List.contains_iff_mem.mp (hk k rfl)))
    | other => cases e
    | _ => exact List.mem_append_left _ (by simp)
  have z := of_decide_eq_true (h1 d m)
  rw [← e]
  exact z
theorem kitOne_of {K : PySem.W.Frag} {t u : Value} {b : Bool} (h : PySem.W.kitAny K t [u] = some b) : PySem.W.kitOne K t u = some b := by
  simp only [PySem.W.kitAny] at h
  cases q : PySem.W.kitOne K t u with
  | none => rw [q] at h; cases h
  | some z =>
    rw [q] at h
    cases z with
    | true => exact h
    | false => exact h
def isicB (x : Str) (K : PySem.W.Frag) : Bool := (He.Fa.cls x).ok K && (He.eqO (PySem.W.findIn K (.ref (He.ga K x)) "__class__") (some (some (.builtin "object.__class__"))) && (He.eqO (PySem.W.specialIn K (.builtin "object.__class__") "__get__") (some (some (.builtin "getset_descriptor.__get__"))) &&
  (decide (PySem.W.takesIn K (.builtin "object.__class__") = some true) && decide (PySem.W.mroIn K (He.ga K x) (.type "object") = some true))))
theorem isicB_ok {x : Str} {K : PySem.W.Frag} (h : isicB x K = true) : IsiC K (He.ga K x) := by
  obtain ⟨h1, h⟩ := He.ba h
  obtain ⟨h2, h⟩ := He.ba h
  obtain ⟨h3, h⟩ := He.ba h
  obtain ⟨h4, h5⟩ := He.ba h
  exact ⟨He.cls_ok h1, He.eqO_ok h2, He.eqO_ok h3, of_decide_eq_true h4, of_decide_eq_true h5⟩
theorem own_of {K : PySem.W.Frag} {C f : Addr} {m : Str} (h : Meth K C m f) : OwnM K C m f := ⟨h.at_, h.fn⟩
def neB (x : Str) (K : PySem.W.Frag) : Bool := He.eqO (PySem.W.findIn K (.ref (He.ga K x)) "__ne__") (some (some (.builtin "object.__ne__")))
def mroOb (x : Str) (K : PySem.W.Frag) : Bool := decide (PySem.W.mroIn K (He.ga K x) (.type "object") = some true)
theorem mroOb_ok {x : Str} {K : PySem.W.Frag} (h : mroOb x K = true) : PySem.W.mroIn K (He.ga K x) (.type "object") = some true := of_decide_eq_true h
def fnInB (x m : Str) (K : PySem.W.Frag) : Bool := PySem.W.fnIn K (He.ma K (He.ga K x) m)
def cmB (x m : Str) (K : PySem.W.Frag) : Bool := He5.wrapB K (He.ga K x) "classmethod" "classmethod.__get__" m && PySem.W.fnIn K (He5.wf K (He.ga K x) "classmethod" m)
theorem cmB_ok {x m : Str} {K : PySem.W.Frag} (h : cmB x m K = true) : ClX.CMet K (He.ga K x) (.type "type") m (He.ma K (He.ga K x) m) (He5.wf K (He.ga K x) "classmethod" m) := by
  obtain ⟨h1, h2⟩ := He.ba h
  exact He5.cmet_of h1 h2
def creadB (x : Str) (K : PySem.W.Frag) : Bool := PySem.W.readsIn K (He.ga K x) (.type "type") && He.eqO (PySem.W.specialIn K (.ref (He.ga K x)) "__getattribute__") (some (some (.builtin "type.__getattribute__")))
theorem creadB_ok {x : Str} {K : PySem.W.Frag} (h : creadB x K = true) : ClX.CRead K (He.ga K x) (.type "type") := by
  obtain ⟨h1, h2⟩ := He.ba h
  exact ⟨h1, He.eqO_ok h2⟩
/-- a tuple of strings in the module -/
theorem krep_tupS {c : TC} {a : Addr} {xs : List Str} (h : ∀ H, SqT c.K H a (xs.map V.str)) (g : ∀ x ∈ xs, StrG x) : ∀ G, Rep c G (.tup (xs.map .str)) (.ref a) := fun G => by
  simp only [Rep]
  refine ⟨a, _, rfl, h G, ?_⟩
  clear h
  induction xs with
  | nil => rfl
  | cons x r ih => exact ⟨_, _, rfl, ⟨rfl, g x List.mem_cons_self⟩, ih fun y hy => g y (List.mem_cons_of_mem _ hy)⟩
theorem dv_strs {K : PySem.W.Frag} {xs : List Str} : (xs.map He.Dv.str).map (He.Dv.v K) = xs.map V.str := by
  rw [List.map_map]; rfl
/-- the tuple at a is empty -/
def nilAt (a : PySem.W.Frag → Addr) (K : PySem.W.Frag) : Bool := match K.lookup (a K) with
  | some ⟨.type c, _, .seq its _, _⟩ => decide (c = "tuple") && its.isEmpty
  | _ => false
theorem nilAt_ok {a : PySem.W.Frag → Addr} {K : PySem.W.Frag} (h : nilAt a K = true) (H : Hp) : SqT K H (a K) [] := by
  unfold nilAt at h
  split at h
  · rename_i c od its n sl q
    obtain ⟨h1, h2⟩ := He.ba h
    have e : its = #[] := by simpa using h2
    subst e
    exact .inr ⟨_, #[], n, q, congrArg Value.type (of_decide_eq_true h1), rfl, by show 0 ≤ sizeLine; exact Nat.zero_le _, .nil⟩
  · cases h
theorem strG_by {x : Str} (h : (decide (x.length ≤ sizeLine) && PyData.strOk x) = true) : StrG x := by
  obtain ⟨h1, h2⟩ := He.ba h
  exact ⟨of_decide_eq_true h1, h2⟩
/-- the defaults that fill up, by binds1 -/
theorem Fill.of {c : TC} {K : PySem.W.Frag} {fd : FuncData} {ps : List Str} {dvs : List V} {ds : List PV} (h : ∃ dw, Vals dvs dw ∧ Binds K fd ps dw) (hr : ∀ G, RepL c G ds dvs) : Fill c K fd ps ds := by
  obtain ⟨dw, h1, h2⟩ := h
  exact ⟨dvs, dw, h1, h2, hr⟩
theorem takesW0 {X : Cx} : Takes X W0 := fun u s' ⟨a, B, sI, pins, σ, H, cls, d, e, I, nb, up, sky, na, os, ag, w⟩ => w.elim
theorem pe_gstr {X : Cx} {x z : Str} {p : Pos} (hg : Gl X x) (hm : ∃ t, X.mg x = some (.str z t)) (hd : (x == ("__debug__" : Str)) = false := by decide) : PE X (.Name x p) (tC (.str z)) := by
  obtain ⟨t, hm⟩ := hm
  exact pe_glob hg hm ⟨t, rfl⟩ hd
theorem pt_gstr {X : Cx} {c : TC} {r : Ref} {W : WX} {x z : Str} {p : Pos} (hg : Gl X x) (hm : ∃ t, X.mg x = some (.str z t)) (hs : StrG z) (hd : (x == ("__debug__" : Str)) = false := by decide) : PE X (.Name x p) (TEof c r W (eCon (.str z))) := pt_con (pe_gstr hg hm hd) fun _ => by
  simp only [Rep]; exact ⟨trivial, hs⟩
theorem pt_gref {X : Cx} {c : TC} {r : Ref} {W : WX} {x : Str} {t : PV} {a : Addr} {p : Pos} (hg : Gl X x) (hm : X.mg x = some (.ref a)) (hr : ∀ G, Rep c G t (.ref a)) (hd : (x == ("__debug__" : Str)) = false := by decide) : PE X (.Name x p) (TEof c r W (eCon t)) := pt_con (pe_glob (v := .ref a) (u := .ref a) hg hm rfl hd) hr
end TreeL
end
section
/-! TL18: own compares as tests; small things for printed walks. -/
namespace TreeL
open PySem PySem.Spec PyProof.Rows L2
theorem npin {r : Ref} {pn : List Nat} {i : Nat} (hp : r.pins.map Prod.fst = pn) (h : pn.contains i = false := by rfl) : (r.pins.map Prod.fst).contains i = false := by rw [hp]; exact h
theorem npins {r : Ref} {pn js : List Nat} (hp : r.pins.map Prod.fst = pn) (h : (js.all fun j => !pn.contains j) = true := by rfl) : ∀ j ∈ js, (r.pins.map Prod.fst).contains j = false := fun j hj => by
  rw [hp]
  have := List.all_eq_true.mp h j hj
  simpa using this
theorem subl {us js : List Nat} (h : (us.all fun j => js.contains j) = true := by rfl) : ∀ j ∈ us, j ∈ js := fun j hj => List.contains_iff_mem.mp (List.all_eq_true.mp h j hj)
def locB (sc : Scope) (x : Str) : Bool := match sc.names.lookup x with
  | some .local => true
  | some .cell => true
  | _ => false
theorem locOf {sc : Scope} {x : Str} (h : locB sc x = true := by rfl) : L2.Loc sc x := by
  unfold locB at h
  unfold L2.Loc
  split at h
  · rename_i e; exact .inl e
  · rename_i e; exact .inr e
  · cases h
section
variable {X : Cx} {c : TC} {r : Ref} {W : WX} {k : Nat}
theorem u64 (hr : RoomG k X.A) : X.A.units + 64 < cLine := by have := hr.rm.un; omega
theorem u65 (hr : RoomG k X.A) : X.A.units + 65 < cLine := by have := hr.rm.un; omega
theorem u1 (hr : RoomG k X.A) : X.A.units + 1 < cLine := by have := hr.rm.un; omega
end
@[simp] def tTst (er : EvR) : EvT := fun env => (er env).bind fun a e => match a with
  | .t (.bl b) => .ok b e
  | _ => .bad
section
variable {X : Cx} {c : TC} {r : Ref} {W : WX} {F : FSem} {ea eb : EvE} {k kc : Nat} {f : Addr} {fd : FuncData} {ps : List Str} {pos : Pos} {a b : Expr}
theorem tst_imp {er : EvR} {σ : L2.St} {H : Hp} {Q : Bool → Hp → Prop} (h : TTof c r W (tTst er) σ H Q) : TRof c r W er σ H (fun v H1 => ∃ b, v = .bl b ∧ Q b H1) := by
  obtain ⟨ads, G, env, R, h⟩ := h
  refine ⟨ads, G, env, R, Sat_mono (Sat_bind.mp h) (fun o e1 h1 ads1 G1 H1 v1 R1 s1 p1 => ?_) fun _ _ z => z⟩
  cases o with
  | ow _ => exact h1.elim
  | t t =>
    cases t with
    | bl b =>
      simp only [ResNew, Rep] at p1
      exact ⟨b, p1, h1 ads1 G1 H1 R1 s1⟩
    | _ => exact h1.elim
theorem eqOwn_run (M : OwnM X.K (c.C kc) "__eq__" f) (hF : FnG X.prog X.w X.K X.mg X.base k f fd ps (spF c 2 F)) (hb : Binds X.K fd ps []) (hr : RoomG k X.A) (tk : Takes X W) (ha : PE X a (TEof c r W ea)) (hbb : PE X b (TEof c r W eb))
    {pins : List (Addr × Obj)} {st : Shared} {σ : L2.St} {H : Hp} {Q : VK} (I : Inv X pins σ H st) (h : TRof c r W (rDun2 kc F gBl (isIns kc) ea eb) σ H Q) :
    wpAny (model X.prog X.w) X.A (eval a X.env) (fun v s1 => wpAny (model X.prog X.w) X.A (eval b X.env) (fun u s2 => wpAny (model X.prog X.w) X.A (compareOp .Eq v u) (EP X pins σ Q) X.xe s2) X.xe s1) X.xe st := by
  refine two_run (f2 := compareOp .Eq) pins_ok ha hbb (fun pins st σ H x y v u Q ads0 G0 H0 I rx ry ⟨⟨a1, dx, gs, e1, hH⟩, ⟨a2, dy, gs2, e2, hH2⟩, sp⟩ => ?_) I h
  subst e1; subst e2
  obtain rfl := (show v = Value.ref a1 from rx)
  obtain rfl := (show u = Value.ref a2 from ry)
  obtain ⟨ox, od, J⟩ := inst_of I hH
  obtain ⟨ox2, od2, J2⟩ := inst_of I hH2
  obtain ⟨m, fr⟩ := I.fr
  show wpAny _ _ (richCompare .Eq _ _) _ _ _
  refine PySem.W.cmp_K (op := .Eq) hr.rm.units0 fr I.ok.mod.kin J J2.type (by simp [PySem.W.notFirst]) M.at_ M.fn ?_
  refine thn (runG0 hF hb hr I.ok.frames (passAt tk σ) I (.cons rx (.cons ry .nil)) sp) fun u s2 ⟨v2, H2, I2, r2, qg⟩ => ?_
  obtain ⟨bb, rfl, q⟩ := qg.bl gBl_bl
  cases r2
  exact ⟨.bl bb, H2, I2, (show RelV (.bl bb) (.bool bb) from rfl), q⟩
theorem tt_eqOwn (M : OwnM X.K (c.C kc) "__eq__" f) (hF : FnG X.prog X.w X.K X.mg X.base k f fd ps (spF c 2 F)) (hb : Binds X.K fd ps []) (hr : RoomG k X.A) (tk : Takes X W) (ha : PE X a (TEof c r W ea)) (hbb : PE X b (TEof c r W eb)) :
    PT X (.Compare a [.Eq] [b] pos) (TTof c r W (tTst (rDun2 kc F gBl (isIns kc) ea eb))) := ⟨fun pins st σ H Q I h => by
  refine wpAny_isTrue_Compare1 (thn (eqOwn_run M hF hb hr tk ha hbb I (tst_imp h)) fun v s1 h1 => thn h1 fun u s2 h2 => thn h2 fun cv s3 ⟨z, H3, I3, r3, kk, e, q3⟩ => ?_) (nomark _)
  subst e
  cases r3
  exact wpAny_truthy_bool ⟨H3, I3, q3⟩⟩
theorem neOwn_run (M : OwnM X.K (c.C kc) "__eq__" f) (hne : PySem.W.findIn X.K (.ref (c.C kc)) "__ne__" = some (some (.builtin "object.__ne__"))) (hob : PySem.W.mroIn X.K (c.C kc) (.type "object") = some true) (hF : FnG X.prog X.w X.K X.mg X.base k f fd ps (spF c 2 F)) (hb : Binds X.K fd ps []) (hr : RoomG (k + 1) X.A) (tk : Takes X W) (ha : PE X a (TEof c r W ea)) (hbb : PE X b (TEof c r W eb))
    {pins : List (Addr × Obj)} {st : Shared} {σ : L2.St} {H : Hp} {Q : VK} (I : Inv X pins σ H st) (h : TRof c r W (rDun2 kc F gNot (isIns kc) ea eb) σ H Q) :
    wpAny (model X.prog X.w) X.A (eval a X.env) (fun v s1 => wpAny (model X.prog X.w) X.A (eval b X.env) (fun u s2 => wpAny (model X.prog X.w) X.A (compareOp .NotEq v u) (EP X pins σ Q) X.xe s2) X.xe s1) X.xe st := by
  refine two_run (f2 := compareOp .NotEq) pins_ok ha hbb (fun pins st σ H x y v u Q ads0 G0 H0 I rx ry ⟨⟨a1, dx, gs, e1, hH⟩, ⟨a2, dy, gs2, e2, hH2⟩, sp⟩ => ?_) I h
  subst e1; subst e2
  obtain rfl := (show v = Value.ref a1 from rx)
  obtain rfl := (show u = Value.ref a2 from ry)
  obtain ⟨ox, od, J⟩ := inst_of I hH
  obtain ⟨ox2, od2, J2⟩ := inst_of I hH2
  obtain ⟨m, fr⟩ := I.fr
  show wpAny _ _ (richCompare .NotEq _ _) _ _ _
  refine ne_K (by have := hr.rm.un; omega) fr I.ok.mod.kin J J2.type (by simp [PySem.W.notFirst]) hne hob M.at_ M.fn ?_
  refine thn (runG0 hF hb (RoomG.in1 hr) (frames_in1 I.ok.frames) (passAt tk σ) I (.cons rx (.cons ry .nil)) sp) fun u s2 ⟨v2, H2, I2, r2, qg⟩ => ?_
  obtain ⟨bb, rfl, q⟩ := qg.bl gNot_bl
  cases r2
  exact ⟨bb, rfl, .bl (!bb), H2, I2, (show RelV (.bl (!bb)) (.bool !bb) from rfl), q⟩
theorem tt_neOwn (M : OwnM X.K (c.C kc) "__eq__" f) (hne : PySem.W.findIn X.K (.ref (c.C kc)) "__ne__" = some (some (.builtin "object.__ne__"))) (hob : PySem.W.mroIn X.K (c.C kc) (.type "object") = some true) (hF : FnG X.prog X.w X.K X.mg X.base k f fd ps (spF c 2 F)) (hb : Binds X.K fd ps []) (hr : RoomG (k + 1) X.A) (tk : Takes X W) (ha : PE X a (TEof c r W ea)) (hbb : PE X b (TEof c r W eb)) :
    PT X (.Compare a [.NotEq] [b] pos) (TTof c r W (tTst (rDun2 kc F gNot (isIns kc) ea eb))) := ⟨fun pins st σ H Q I h => by
  refine wpAny_isTrue_Compare1 (thn (neOwn_run M hne hob hF hb hr tk ha hbb I (tst_imp h)) fun v s1 h1 => thn h1 fun u s2 h2 => thn h2 fun cv s3 ⟨z, H3, I3, r3, kk, e, q3⟩ => ?_) (nomark _)
  subst e
  cases r3
  exact wpAny_truthy_bool ⟨H3, I3, q3⟩⟩
end
end TreeL
end
section
/-! TL19: small things for printed walks. -/
namespace TreeL
open PySem PySem.Spec PyProof.Rows L2
inductive AllP {α : Type} (p : α → Prop) : List α → Prop where
  | nil : AllP p []
  | cons {x : α} {xs : List α} (h : p x) (r : AllP p xs) : AllP p (x :: xs)
theorem AllP.all {α : Type} {p : α → Prop} : ∀ {xs : List α}, AllP p xs → ∀ x ∈ xs, p x
  | _, .cons h r, x, m => by
    rcases List.mem_cons.mp m with e | e
    · rw [e]; exact h
    · exact r.all x e
theorem tgtAll {c : TC} : ∀ ts : List Tgt, Paired ClsV (ts.map (Tgt.v c)) (ts.map (Tgt.val c))
  | [] => .nil
  | t :: ts => .cons (t.cls c) (tgtAll ts)
theorem capq {X : Cx} {r : Ref} {pn : List Nat} {N : List Str} {sc : Scope} {is : List Nat} {xs : List Str} (hp : r.pins.map Prod.fst = pn) (hN : X.N = N) (hs : X.env.scope = sc)
    (h : ((is.zip xs).all fun q => (decide (N[q.1]? = some q.2) && (match sc.names.lookup q.2 with | some .local => true | _ => false)) && !pn.contains q.1) = true) :
    ∀ q ∈ is.zip xs, X.N[q.1]? = some q.2 ∧ X.env.scope.names.lookup q.2 = some .local ∧ (r.pins.map Prod.fst).contains q.1 = false := fun q hq => by
  obtain ⟨h1, h3⟩ := He.ba (List.all_eq_true.mp h q hq)
  obtain ⟨h1, h2⟩ := He.ba h1
  rw [hN, hs, hp]
  refine ⟨of_decide_eq_true h1, ?_, by simpa using h3⟩
  split at h2
  · rename_i e; exact e
  · cases h2
theorem strsG {xs : List Str} (h : (xs.all fun x => decide (x.length ≤ sizeLine) && PyData.strOk x) = true) : ∀ x ∈ xs, StrG x := fun x hx => strG_by (List.all_eq_true.mp h x hx)
theorem pt_gint {X : Cx} {c : TC} {r : Ref} {W : WX} {x : Str} {z : Int} {p : Pos} (hg : Gl X x) (hm : ∃ t, X.mg x = some (.int z t)) (hd : (x == ("__debug__" : Str)) = false := by decide) : PE X (.Name x p) (TEof c r W (eCon (.int z))) := by
  obtain ⟨t, hm⟩ := hm
  exact pt_con (pe_glob (v := .int z) hg hm ⟨t, rfl⟩ hd) fun G => rep_int G
theorem pe_bltT {X : Cx} {x : Str} {T : String} {p : Pos} (hg : Gl X x) (hm : X.mg x = none) (hv : bootBuiltins x = some (.type T)) (hn : x ≠ "__name__" := by decide) (hd : (x == ("__debug__" : Str)) = false := by decide) : PE X (.Name x p) (tC (.ty T)) := pe_bltn hg hm hv rfl hn hd
theorem repl_nil {c : TC} {G : Hp} : RepL c G [] [] := rfl
theorem repl_cons {c : TC} {G : Hp} {t : PV} {ts : List PV} {v : V} {vs : List V} (h : Rep c G t v) (r : RepL c G ts vs) : RepL c G (t :: ts) (v :: vs) := ⟨v, vs, rfl, h, r⟩
theorem rep_tup0 {c : TC} {G : Hp} {a : Addr} (h : ∀ H, SqT c.K H a []) : Rep c G (.tup []) (.ref a) := by
  simp only [Rep]
  exact ⟨a, [], rfl, h G, rfl⟩
theorem rep_nonC {c : TC} {G : Hp} : Rep c G .non .non := by simp [Rep]
theorem rep_blC {c : TC} {G : Hp} {b : Bool} : Rep c G (.bl b) (.bl b) := by simp [Rep]
theorem rep_intC {c : TC} {G : Hp} {b : Int} : Rep c G (.int b) (.int b) := by simp [Rep]
theorem rep_strC {c : TC} {G : Hp} {x : Str} (h : (decide (x.length ≤ sizeLine) && PyData.strOk x) = true := by decide +kernel) : Rep c G (.str x) (.str x) := by
  simp only [Rep]; exact ⟨trivial, strG_by h⟩
theorem lenT {c : TC} {ts : List Tgt} (h : decide (ts.length ≤ sizeLine) = true) : (ts.map (Tgt.v c)).length ≤ sizeLine := by rw [List.length_map]; exact of_decide_eq_true h
section
variable {X : Cx} {c : TC} {r : Ref} {W : WX} {F : FSem} {el : EvA} {ea : EvE} {n k kc : Nat} {ds : List PV} {f q : Addr} {mc : Value} {fd : FuncData} {ps : List Str} {x m : Str} {p pos apos : Pos} {a o : Expr} {as : List Expr}
theorem tr_cmethP (he : PE X o (tC (.ref (c.C kc)))) (cr : ClX.CRead X.K (c.C kc) mc) (cm : ClX.CMet X.K (c.C kc) mc m q f) (hF : FnG X.prog X.w X.K X.mg X.base k f fd ps (spF c n F)) (hb : Fill c X.K fd ps ds) (hr : RoomG k X.A) (tk : Takes X W) (ha : PA X (a :: as) (TAof c r W el))
    (hst : starEach (a :: as) X.env = (false, eval a X.env) :: starEach as X.env := by rfl) (hpl : (backTo pos (starEach as X.env)).any (·.1) = false := by rfl)
    (ht : eval (.Call (.Attribute o m apos) (a :: as) [] pos) X.env = (do let ov ← eval o X.env; standAt apos.atName; let (g, first) ← holding [ov] (getMethod ov m (plainOf o X.env)); callWith pos g first (backTo pos (starEach (a :: as) X.env)) (backToKw pos (keywordEach [] X.env))) := by rfl) :
    PE X (.Call (.Attribute o m apos) (a :: as) [] pos) (TRof c r W (rCls kc n F ds el)) := tr_cmeth he cr cm hF hb hr tk ha hst hpl ht
theorem tr_methP (he : PE X o (TEof c r W ea)) (cl : Cls X.K (c.C kc)) (hm : Meth X.K (c.C kc) m f) (hF : FnG X.prog X.w X.K X.mg X.base k f fd ps (spF c n F)) (hb : Fill c X.K fd ps ds) (hr : RoomG k X.A) (tk : Takes X W) (ha : PA X (a :: as) (TAof c r W el))
    (hst : starEach (a :: as) X.env = (false, eval a X.env) :: starEach as X.env := by rfl) (hpl : (backTo pos (starEach as X.env)).any (·.1) = false := by rfl)
    (ht : eval (.Call (.Attribute o m apos) (a :: as) [] pos) X.env = (do let ov ← eval o X.env; standAt apos.atName; let (g, first) ← holding [ov] (getMethod ov m (plainOf o X.env)); callWith pos g first (backTo pos (starEach (a :: as) X.env)) (backToKw pos (keywordEach [] X.env))) := by rfl) :
    PE X (.Call (.Attribute o m apos) (a :: as) [] pos) (TRof c r W (rMeth kc m n F ds ea el)) := tr_meth he cl hm hF hb hr tk ha hst hpl ht
theorem tr_methP0 (he : PE X o (TEof c r W ea)) (cl : Cls X.K (c.C kc)) (hm : Meth X.K (c.C kc) m f) (hF : FnG X.prog X.w X.K X.mg X.base k f fd ps (spF c n F)) (hb : Fill c X.K fd ps ds) (hr : RoomG k X.A) (tk : Takes X W)
    (ht : eval (.Call (.Attribute o m apos) [] [] pos) X.env = (do let ov ← eval o X.env; standAt apos.atName; let (g, first) ← holding [ov] (getMethod ov m (plainOf o X.env)); callWith pos g first (backTo pos (starEach [] X.env)) (backToKw pos (keywordEach [] X.env))) := by rfl) :
    PE X (.Call (.Attribute o m apos) [] [] pos) (TRof c r W (rMeth kc m n F ds ea aNil)) := tr_meth0 he cl hm hF hb hr tk ht
end
end TreeL
end
section
/-! TL20: reckoning with the evaluators: simp rules, loops, the box of draws. -/
namespace TreeL
open PySem PySem.Spec PyProof.Rows L2
/-- what a def gives -/
theorem fDef_of {n : Nat} {pn : List Nat} {body : EvS} {args : List Arg} (h : okArgs pn 0 args = true) : fDef n pn body args = (match body (env0 n args) with
  | .nx e => .ret (.t .non) (upArgs args e)
  | .rt a e => .ret a (upArgs args e)
  | .exc x e => .exc x (upArgs args e)
  | _ => .bad) := by unfold fDef; rw [if_pos h]; try (cases body (env0 n args) <;> rfl)
/-! ### loops -/
theorem compL_sat {g : Tg} {et : EvT} {ea : EvE} {vs : List Nat} {al : En → Bool} (I : List PV → En → Prop) (hal : ∀ acc env, I acc env → al env = true) : ∀ (ts acc : List PV) (env : En), acc.length + ts.length ≤ LIM → I acc env →
    (∀ t ∈ ts, ∀ acc env, I acc env → ∃ e1, g t env = some e1 ∧ ∃ b e2, et e1 = .ok b e2 ∧ (if b = true then ∃ x e3, ea e2 = .ok (.tr x) e3 ∧ I (acc ++ [x]) (wipeE e3 vs) else I acc (wipeE e2 vs))) →
    ∃ acc' env', compL g et ea vs al ts acc env = .ok acc' env' ∧ I acc' env'
  | [], acc, env, _, h, _ => ⟨acc, env, by simp [compL, hal _ _ h], h⟩
  | t :: ts, acc, env, hl, h, hs => by
    obtain ⟨e1, q1, b, e2, q2, q3⟩ := hs t List.mem_cons_self acc env h
    rw [List.length_cons] at hl
    cases b with
    | true =>
      obtain ⟨x, e3, q4, q5⟩ := q3
      obtain ⟨acc', env', r1, r2⟩ := compL_sat I hal ts (acc ++ [x]) (wipeE e3 vs) (by rw [List.length_append, List.length_singleton]; omega) q5 fun t ht => hs t (List.mem_cons_of_mem _ ht)
      have hlt : acc.length < LIM := by omega
      exact ⟨acc', env', by rw [← r1]; simp [compL, hal _ _ h, q1, q2, q4, hlt], r2⟩
    | false =>
      obtain ⟨acc', env', r1, r2⟩ := compL_sat I hal ts acc (wipeE e2 vs) (by omega) q3 fun t ht => hs t (List.mem_cons_of_mem _ ht)
      exact ⟨acc', env', by rw [← r1]; simp [compL, hal _ _ h, q1, q2], r2⟩
/-- a map -/
theorem compL_map {g : Tg} {et : EvT} {ea : EvE} {vs : List Nat} {al : En → Bool} {env : En} (f : PV → PV) (hal : al env = true) : ∀ (ts acc : List PV), acc.length + ts.length ≤ LIM →
    (∀ t ∈ ts, ∃ e1, g t env = some e1 ∧ et e1 = .ok true e1 ∧ ∃ e3, ea e1 = .ok (.tr (f t)) e3 ∧ wipeE e3 vs = env) → compL g et ea vs al ts acc env = .ok (acc ++ ts.map f) env
  | [], acc, _, _ => by simp [compL, hal]
  | t :: ts, acc, hl, hs => by
    obtain ⟨e1, q1, q2, e3, q4, q5⟩ := hs t List.mem_cons_self
    rw [List.length_cons] at hl
    have hlt : acc.length < LIM := by omega
    have r := compL_map (acc := acc ++ [f t]) f hal ts (by rw [List.length_append, List.length_singleton]; omega) fun t ht => hs t (List.mem_cons_of_mem _ ht)
    simp [compL, hal, q1, q2, q4, hlt, q5, r]
theorem loopF_sat {g : Tg} {body : EvS} {al : En → Bool} {k : SK} (I : List PV → En → Prop) (hal : ∀ ts env, I ts env → al env = true) (hn : ∀ env, I [] env → k.nx env)
    (hs : ∀ t ts env, I (t :: ts) env → ∃ e1, g t env = some e1 ∧ (body e1).Sat { k with nx := I ts, ct := I ts, bk := k.nx }) : ∀ (ts : List PV) (env : En), I ts env → (loopF g body al ts env).Sat k
  | [], env, h => by simp [loopF, hal _ _ h, SO.Sat, hn _ h]
  | t :: ts, env, h => by
    obtain ⟨e1, q1, q2⟩ := hs t ts env h
    rw [loopF, if_pos (hal _ _ h), q1]
    simp only
    cases q : body e1 with
    | nx e2 => rw [q] at q2; exact loopF_sat I hal hn hs ts e2 q2
    | ct e2 => rw [q] at q2; exact loopF_sat I hal hn hs ts e2 q2
    | bk e2 => rw [q] at q2; exact q2
    | rt t e2 => rw [q] at q2; exact q2
    | exc x e2 => rw [q] at q2; exact q2
    | bad => rw [q] at q2; exact q2
theorem sLoop_sat {et : EvT} {body : EvS} {k : SK} (I : Nat → En → Prop)
    (hs : ∀ m env, I m env → ∃ b e, et env = .ok b e ∧ (if b = true then (body e).Sat { k with nx := fun e' => ∃ m', m' < m ∧ I m' e', ct := fun e' => ∃ m', m' < m ∧ I m' e', bk := k.nx } else k.nx e)) : ∀ (n m : Nat) (env : En), m < n → I m env → (sLoop et body n env).Sat k
  | 0, m, env, h, _ => absurd h (Nat.not_lt_zero _)
  | n + 1, m, env, h, hi => by
    obtain ⟨b, e, q1, q2⟩ := hs m env hi
    rw [sLoop, q1]
    simp only [RE.so]
    cases b with
    | false => exact q2
    | true =>
      rw [if_pos rfl] at q2
      rw [if_pos rfl]
      cases q : body e with
      | nx e2 => rw [q] at q2; obtain ⟨m', l, i⟩ := q2; exact sLoop_sat I hs n m' e2 (by omega) i
      | ct e2 => rw [q] at q2; obtain ⟨m', l, i⟩ := q2; exact sLoop_sat I hs n m' e2 (by omega) i
      | bk e2 => rw [q] at q2; exact q2
      | rt t e2 => rw [q] at q2; exact q2
      | exc x e2 => rw [q] at q2; exact q2
      | bad => rw [q] at q2; exact q2
/-- a statement that goes on -/
theorem sat_nx {s : SO} {P : En → Prop} (h : s.Sat ⟨P, fun _ _ => False, fun _ => False, fun _ => False, fun _ _ => False⟩) : ∃ e, s = .nx e ∧ P e := by
  cases s with
  | nx e => exact ⟨e, rfl, h⟩
  | _ => exact h.elim
/-! ### the box of draws, family A -/
structure Box where
  great : List Int
  now : Int
  mixed : Int
  turn : Int
def Box.os (b : Box) : OS := .boxD b.great [("now", b.now), ("mixed", b.mixed), ("turn", b.turn)]
structure Box.Ok (b : Box) : Prop where
  great : ∀ x ∈ b.great, 0 < x
  len : b.great.length ≤ 100
  now : 0 ≤ b.now
  mixed : 0 ≤ b.mixed ∧ b.mixed ≤ 2 ^ 31
  turn : 0 ≤ b.turn
/-- a box, at most n turns old -/
def IsBox (n : Int) (o : OS) : Prop := ∃ b : Box, o = b.os ∧ b.Ok ∧ b.turn ≤ n
theorem IsBox.mono {n m : Int} {o : OS} (h : IsBox n o) (l : n ≤ m) : IsBox m o := by
  obtain ⟨b, e, k, t⟩ := h
  exact ⟨b, e, k, by omega⟩
theorem log2_lt {n k : Nat} (h : n < 2 ^ k) (hk : 0 < k) : n.log2 < k := by
  by_cases z : n = 0
  · subst z; simpa using hk
  · exact (Nat.log2_lt z).mpr h
theorem mulA_ok {i j : Int} (h1 : i.natAbs < 2 ^ 100000) (h2 : j.natAbs < 2 ^ 100000) : mulA (.int i) (.int j) = some (.t (.int (i * j))) := by
  have a := log2_lt h1 (by decide)
  have b := log2_lt h2 (by decide)
  simp only [mulA]
  rw [if_pos (by omega)]
namespace A
def eb_draw : EvS := (sBput 0 "now" (eBpop 0))
def while_draw : EvS := sLoop (tAn (tBl (eBin eqP (eBget 0 "now") (eCon (.int 0)))) (tBl (eBin gtP (eBlen 0) (eCon (.int 0))))) eb_draw 1000
def if_draw : EvS := (sIf (tBl (eBin gtP (eBget 0 "now") (eCon (.int 0)))) (sSeq (sAsg (eBin modP (eRes (rBui intF (aCons (eBget 0 "now") aNil))) (eVar 1)) (gNm 2))
  (sSeq (sBput 0 "now" (eBin fdivP (eBget 0 "now") (eVar 1)))
  (sRet [0, 1] (eVar 2)))) sSkip)
def rest_draw : EvS := (sSeq (sBput 0 "turn" (eRes (rBin addA (eBget 0 "turn") (eCon (.int 1)))))
  (sSeq (sAsg (eBin modP (eRes (rBui intF (aCons (eRes (rBin addA (eRes (rBin mulA (eBget 0 "mixed") (eCon (.int 48271)))) (eRes (rBin mulA (eBget 0 "turn") (eCon (.int 69621)))))) aNil))) (eCon (.int 2147483629))) (gNm 3))
  (sSeq (sAsg (eBin modP (eRes (rBui intF (aCons (eRes (rBin addA (eRes (rBin mulA (eVar 3) (eVar 3))) (eRes (rBin mulA (eBget 0 "turn") (eCon (.int 7919)))))) aNil))) (eCon (.int 2147483563))) (gNm 4))
  (sSeq (sBput 0 "mixed" (eRes (rBin addA (eBin modP (eRes (rBui intF (aCons (eRes (rBin addA (eRes (rBin mulA (eVar 4) (eCon (.int 40692)))) (eVar 3))) aNil))) (eCon (.int 2147483647))) (eCon (.int 1)))))
  (sRet [0, 1] (eBin modP (eRes (rBui intF (aCons (eRes (rBin addA (eBin fdivP (eVar 4) (eCon (.int 4096))) (eVar 3))) aNil))) (eVar 1)))))))
def ev_draw : EvS := sSeq while_draw (sSeq if_draw rest_draw)
def F_draw : FSem := fDef 5 [0, 1] ev_draw
theorem d1 : ((Str.ofString "now") = GREAT) = False := by simp only [eq_iff_iff, iff_false]; decide +kernel
theorem d2 : ((Str.ofString "mixed") = GREAT) = False := by simp only [eq_iff_iff, iff_false]; decide +kernel
theorem d3 : ((Str.ofString "turn") = GREAT) = False := by simp only [eq_iff_iff, iff_false]; decide +kernel
theorem b1 : ((Str.ofString "mixed") == (Str.ofString "now")) = false := by decide +kernel
theorem b2 : ((Str.ofString "turn") == (Str.ofString "now")) = false := by decide +kernel
theorem b3 : ((Str.ofString "turn") == (Str.ofString "mixed")) = false := by decide +kernel
theorem e1 : ((Str.ofString "now") = (Str.ofString "mixed")) = False := by simp only [eq_iff_iff, iff_false]; decide +kernel
theorem e2 : ((Str.ofString "now") = (Str.ofString "turn")) = False := by simp only [eq_iff_iff, iff_false]; decide +kernel
theorem e3 : ((Str.ofString "mixed") = (Str.ofString "turn")) = False := by simp only [eq_iff_iff, iff_false]; decide +kernel
theorem e4 : ((Str.ofString "mixed") = (Str.ofString "now")) = False := by simp only [eq_iff_iff, iff_false]; decide +kernel
theorem e5 : ((Str.ofString "turn") = (Str.ofString "now")) = False := by simp only [eq_iff_iff, iff_false]; decide +kernel
theorem e6 : ((Str.ofString "turn") = (Str.ofString "mixed")) = False := by simp only [eq_iff_iff, iff_false]; decide +kernel
@[simp] theorem bget_now (b : Box) (r : En) : eBget 0 "now" (some (.ow b.os) :: r) = .ok (.tr (.int b.now)) (some (.ow b.os) :: r) := by
  simp [eBget, Box.os, d1]
@[simp] theorem bget_mixed (b : Box) (r : En) : eBget 0 "mixed" (some (.ow b.os) :: r) = .ok (.tr (.int b.mixed)) (some (.ow b.os) :: r) := by
  simp [eBget, Box.os, d2, List.lookup, b1]
@[simp] theorem bget_turn (b : Box) (r : En) : eBget 0 "turn" (some (.ow b.os) :: r) = .ok (.tr (.int b.turn)) (some (.ow b.os) :: r) := by
  simp [eBget, Box.os, d3, List.lookup, b2, b3]
@[simp] theorem blen_os (b : Box) (r : En) : eBlen 0 (some (.ow b.os) :: r) = .ok (.tr (.int b.great.length)) (some (.ow b.os) :: r) := rfl
theorem bpop_os (b : Box) (r : En) (x : Int) (h : b.great[b.great.length - 1]? = some x) : eBpop 0 (some (.ow b.os) :: r) = .ok (.tr (.int x)) (some (.ow { b with great := b.great.dropLast }.os) :: r) := by
  simp [eBpop, Box.os, h]
@[simp] theorem bput_now {ea : EvE} {env : En} {b : Box} {r : En} {n : Int} (h : ea env = .ok (.tr (.int n)) (some (.ow b.os) :: r)) : sBput 0 "now" ea env = .nx (some (.ow { b with now := n }.os) :: r) := by
  simp [sBput, h, Box.os, d1, updI, e4, e5]
@[simp] theorem bput_mixed {ea : EvE} {env : En} {b : Box} {r : En} {n : Int} (h : ea env = .ok (.tr (.int n)) (some (.ow b.os) :: r)) : sBput 0 "mixed" ea env = .nx (some (.ow { b with mixed := n }.os) :: r) := by
  simp [sBput, h, Box.os, d2, updI, e1, e6, List.lookup, b1]
@[simp] theorem bput_turn {ea : EvE} {env : En} {b : Box} {r : En} {n : Int} (h : ea env = .ok (.tr (.int n)) (some (.ow b.os) :: r)) : sBput 0 "turn" ea env = .nx (some (.ow { b with turn := n }.os) :: r) := by
  simp [sBput, h, Box.os, d3, updI, e2, e3, List.lookup, b2, b3]
theorem while_ok (r : En) : ∀ (k : Nat) (b : Box), b.great.length < k → b.Ok → ∃ b' : Box, sLoop (tAn (tBl (eBin eqP (eBget 0 "now") (eCon (.int 0)))) (tBl (eBin gtP (eBlen 0) (eCon (.int 0))))) eb_draw k (some (.ow b.os) :: r) = .nx (some (.ow b'.os) :: r) ∧ b'.Ok ∧ b'.turn = b.turn ∧ b'.mixed = b.mixed
  | 0, b, h, _ => absurd h (Nat.not_lt_zero _)
  | k + 1, b, h, ok => by
    simp only [sLoop]
    by_cases hn : b.now = 0
    · by_cases hg : b.great = []
      · refine ⟨b, ?_, ok, rfl, rfl⟩
        simp [eqP, dat, peq, hn, hg]
      · have hl : 0 < b.great.length := List.length_pos_iff.mpr hg
        obtain ⟨x, hx⟩ : ∃ x, b.great[b.great.length - 1]? = some x := ⟨b.great[b.great.length - 1], List.getElem?_eq_getElem (by omega)⟩
        have mx : x ∈ b.great := List.mem_of_getElem? hx
        have ok2 : ({ b with great := b.great.dropLast, now := x } : Box).Ok := ⟨fun y hy => ok.great y ((List.dropLast_sublist _).subset hy), by have := ok.len; simp; omega, Int.le_of_lt (ok.great x mx), ok.mixed, ok.turn⟩
        obtain ⟨b', q1, q2, q3, q4⟩ := while_ok r k { b with great := b.great.dropLast, now := x } (by simp; omega) ok2
        refine ⟨b', ?_, q2, q3, q4⟩
        rw [← q1]
        have pz := bput_now (ea := eBpop 0) (bpop_os b r x hx)
        simp [eqP, dat, peq, hn, hl, eb_draw, pz]
    · refine ⟨b, ?_, ok, rfl, rfl⟩
      simp [eqP, dat, peq, hn]
theorem abs_lt {i : Int} {k : Nat} (h0 : 0 ≤ i) (h1 : i < (k : Int)) : i.natAbs < k := by omega
theorem big {k : Nat} (h : k ≤ 2 ^ 64) : k ≤ 2 ^ 100000 := Nat.le_trans h (Nat.pow_le_pow_right (by decide) (by decide))
theorem mul_ok {i j : Int} (h0 : 0 ≤ i) (h1 : i < 2 ^ 64) (h2 : 0 ≤ j) (h3 : j < 2 ^ 64) : mulA (.int i) (.int j) = some (.t (.int (i * j))) :=
  mulA_ok (Nat.lt_of_lt_of_le (abs_lt (k := 2 ^ 64) h0 (by simpa using h1)) (big (Nat.le_refl _))) (Nat.lt_of_lt_of_le (abs_lt (k := 2 ^ 64) h2 (by simpa using h3)) (big (Nat.le_refl _)))
theorem draw_spec {n : Int} {o : OS} {m : Int} (h : IsBox n o) (hn : n ≤ 2 ^ 40) (h0 : 0 < m) (hm : m < 2 ^ 40) : ∃ (r : Int) (o' : OS), F_draw [.ow o, .t (.int m)] = .ret (.t (.int r)) [.ow o', .t (.int m)] ∧ 0 ≤ r ∧ r < m ∧ IsBox (n + 1) o' := by
  obtain ⟨b, rfl, ok, ht⟩ := h
  obtain ⟨b1, w1, ok1, t1, m1⟩ := while_ok [some (.t (.int m)), none, none, none] 1000 b (by have := ok.len; omega) ok
  have lm : m.natAbs.log2 < 9000 := Nat.lt_of_lt_of_le (log2_lt (k := 40) (by omega) (by decide)) (by decide)
  by_cases hp : 0 < b1.now
  · refine ⟨b1.now % m, ({ b1 with now := b1.now / m } : Box).os, ?_, Int.emod_nonneg _ (by omega), Int.emod_lt_of_pos _ h0, _, rfl, ⟨ok1.great, ok1.len, Int.ediv_nonneg ok1.now (by omega), ok1.mixed, ok1.turn⟩, by show b1.turn ≤ _; omega⟩
    simp only [F_draw, fDef, ev_draw, while_draw, sSeq, okArgs, env0]
    have p1 : sBput 0 "now" (eBin fdivP (eBget 0 "now") (eVar 1)) [some (.ow b1.os), some (.t (.int m)), some (.t (.int (b1.now % m))), none, none] = .nx [some (.ow ({ b1 with now := b1.now / m } : Box).os), some (.t (.int m)), some (.t (.int (b1.now % m))), none, none] := bput_now (by simp [h0, lm])
    simp [w1, if_draw, intF, hp, h0, p1]
  · have hz : b1.now = 0 := by have := ok1.now; omega
    have ht2 : b1.turn + 1 ≤ 2 ^ 40 + 1 := by omega
    have t0 : 0 ≤ b1.turn := ok1.turn
    have p0 := mul_ok (i := b1.mixed) (j := 48271) ok1.mixed.1 (by have := ok1.mixed.2; omega) (by decide) (by decide)
    have p1 := mul_ok (i := b1.turn + 1) (j := 69621) (by omega) (by omega) (by decide) (by decide)
    obtain ⟨a1, ha1⟩ : ∃ a, a = (b1.mixed * 48271 + (b1.turn + 1) * 69621) % 2147483629 := ⟨_, rfl⟩
    have ra : 0 ≤ a1 ∧ a1 < 2147483629 := by rw [ha1]; exact ⟨Int.emod_nonneg _ (by decide), Int.emod_lt_of_pos _ (by decide)⟩
    have p2 := mul_ok (i := a1) (j := a1) ra.1 (by omega) ra.1 (by omega)
    have p3 := mul_ok (i := b1.turn + 1) (j := 7919) (by omega) (by omega) (by decide) (by decide)
    obtain ⟨a2, ha2⟩ : ∃ a, a = (a1 * a1 + (b1.turn + 1) * 7919) % 2147483563 := ⟨_, rfl⟩
    have rb : 0 ≤ a2 ∧ a2 < 2147483563 := by rw [ha2]; exact ⟨Int.emod_nonneg _ (by decide), Int.emod_lt_of_pos _ (by decide)⟩
    have p4 := mul_ok (i := a2) (j := 40692) rb.1 (by omega) (by decide) (by decide)
    obtain ⟨a3, ha3⟩ : ∃ a, a = (a2 * 40692 + a1) % 2147483647 + 1 := ⟨_, rfl⟩
    have rc : 0 ≤ a3 ∧ a3 ≤ 2 ^ 31 := by
      have x1 := Int.emod_nonneg (a2 * 40692 + a1) (b := 2147483647) (by decide)
      have x2 := Int.emod_lt_of_pos (a2 * 40692 + a1) (b := 2147483647) (by decide)
      omega
    have l4 : Nat.log2 4096 < 9000 := by decide +kernel
    refine ⟨(a2 / 4096 + a1) % m, ({ b1 with turn := b1.turn + 1, mixed := a3 } : Box).os, ?_, Int.emod_nonneg _ (by omega), Int.emod_lt_of_pos _ h0, _, rfl, ⟨ok1.great, ok1.len, ok1.now, rc, by show 0 ≤ b1.turn + 1; omega⟩, by show b1.turn + 1 ≤ _; omega⟩
    simp only [F_draw, fDef, ev_draw, while_draw, sSeq, okArgs, env0]
    have q1 : sBput 0 "turn" (eRes (rBin addA (eBget 0 "turn") (eCon (.int 1)))) [some (.ow b1.os), some (.t (.int m)), none, none, none] = .nx [some (.ow ({ b1 with turn := b1.turn + 1 } : Box).os), some (.t (.int m)), none, none, none] := bput_turn (by simp [addA])
    have q2 : sBput 0 "mixed" (eRes (rBin addA (eBin modP (eRes (rBui intF (aCons (eRes (rBin addA (eRes (rBin mulA (eVar 4) (eCon (.int 40692)))) (eVar 3))) aNil))) (eCon (.int 2147483647))) (eCon (.int 1)))) [some (.ow ({ b1 with turn := b1.turn + 1 } : Box).os), some (.t (.int m)), none, some (.t (.int a1)), some (.t (.int a2))] =
      .nx [some (.ow ({ b1 with turn := b1.turn + 1, mixed := a3 } : Box).os), some (.t (.int m)), none, some (.t (.int a1)), some (.t (.int a2))] := bput_mixed (b := { b1 with turn := b1.turn + 1 }) (by simp [addA, p4, intF, ha3])
    simp [w1, if_draw, intF, hp, rest_draw, q1, addA, p0, p1, ← ha1, p2, p3, ← ha2, q2, l4, h0]
end A
end TreeL
end
section
/-! TL21: the deal, mixing, picking (family A). -/
namespace TreeL
open PySem PySem.Spec PyProof.Rows L2
/-- a filter and map -/
theorem compL_fil {g : Tg} {et : EvT} {ea : EvE} {vs : List Nat} {al : En → Bool} {env : En} (p : PV → Bool) (f : PV → PV) (hal : al env = true) : ∀ (ts acc : List PV), acc.length + ts.length ≤ LIM →
    (∀ t ∈ ts, ∃ e1 e2, g t env = some e1 ∧ et e1 = .ok (p t) e2 ∧ (if p t = true then ∃ e3, ea e2 = .ok (.tr (f t)) e3 ∧ wipeE e3 vs = env else wipeE e2 vs = env)) → compL g et ea vs al ts acc env = .ok (acc ++ (ts.filter p).map f) env
  | [], acc, _, _ => by simp [compL, hal]
  | t :: ts, acc, hl, hs => by
    obtain ⟨e1, e2, q1, q2, q3⟩ := hs t List.mem_cons_self
    rw [List.length_cons] at hl
    have hlt : acc.length < LIM := by omega
    cases hp : p t with
    | true =>
      rw [hp, if_pos rfl] at q3
      obtain ⟨e3, q4, q5⟩ := q3
      have r := compL_fil (acc := acc ++ [f t]) p f hal ts (by rw [List.length_append, List.length_singleton]; omega) fun t ht => hs t (List.mem_cons_of_mem _ ht)
      simp [compL, hal, q1, q2, hp, q4, hlt, q5, r]
    | false =>
      rw [hp, if_neg Bool.false_ne_true] at q3
      have r := compL_fil (acc := acc) p f hal ts (by omega) fun t ht => hs t (List.mem_cons_of_mem _ ht)
      simp [compL, hal, q1, q2, hp, q3, r]
theorem comp1 {et : EvT} {ea : EvE} {al : En → Bool} {env : En} {j : Nat} (p : PV → Bool) (f : PV → PV) (hal : al env = true) (hj : env[j]? = some none) (ts : List PV) (hl : ts.length ≤ LIM)
    (hs : ∀ t ∈ ts, et (env.set j (some (.t t))) = .ok (p t) (env.set j (some (.t t))) ∧ (p t = true → ea (env.set j (some (.t t))) = .ok (.tr (f t)) (env.set j (some (.t t))))) : compL (gNm j) et ea [j] al ts [] env = .ok ((ts.filter p).map f) env := by
  have hw : ∀ x, wipeE (env.set j x) [j] = env := fun x => by
    simp only [wipeE]
    rw [List.set_set]
    apply List.ext_getElem?
    intro k
    rw [List.getElem?_set]
    by_cases e : j = k
    · subst e
      have := (List.getElem?_eq_some_iff.mp hj).1
      rw [if_pos rfl, if_pos this, hj]
    · rw [if_neg e]
  have q := compL_fil (g := gNm j) (et := et) (ea := ea) (vs := [j]) (al := al) (env := env) p f hal ts [] (by simpa using hl) (fun t ht => ⟨_, _, rfl, (hs t ht).1, ?_⟩)
  · rw [q]; simp
  · cases h : p t with
    | true => exact ⟨_, (hs t ht).2 h, hw _⟩
    | false => exact hw _
theorem compM {ea : EvE} {al : En → Bool} {env : En} {j : Nat} (f : PV → PV) (hal : al env = true) (hj : env[j]? = some none) (ts : List PV) (hl : ts.length ≤ LIM)
    (hs : ∀ t ∈ ts, ea (env.set j (some (.t t))) = .ok (.tr (f t)) (env.set j (some (.t t)))) : compL (gNm j) tYesT ea [j] al ts [] env = .ok (ts.map f) env := by
  have q := comp1 (et := tYesT) (ea := ea) (al := al) (fun _ => true) f hal hj ts hl fun t ht => ⟨rfl, fun _ => hs t ht⟩
  rw [q, List.filter_eq_self.mpr (fun _ _ => rfl)]
theorem cutP_map {α : Type} (f : α → PV) (xs : List α) (lo hi : Option Int) : cutP (xs.map f) lo hi = ((xs.drop (HT.sIx xs.length 0 lo)).take (HT.sIx xs.length xs.length hi - HT.sIx xs.length 0 lo)).map f := by
  unfold cutP
  rw [List.length_map, List.map_take, List.map_drop]
theorem intsP_map (xs : List Int) : intsP (xs.map PV.int) = some xs := by
  induction xs with
  | nil => rfl
  | cons x r ih => simp [intsP, ih]
theorem intsP_rev (xs : List Int) : intsP (xs.map PV.int).reverse = some xs.reverse := by rw [← List.map_reverse]; exact intsP_map _
namespace A
def eb_deal : EvS := (sAsg (eBin modP (eRes (rBui intF (aCons (eRes (rBin addA (eRes (rBin mulA (eVar 4) (eCon (.int 16807)))) (eVar 3))) aNil))) (eCon (.int 2147483647))) (gNm 4))
def ev_deal : EvS := (sSeq (sAsg (eOf (fComp (iAny [0, 1] (eRes (rSl (eVar 0) (oSo (eVar 1)) (oSo (eCon (.int 63)))))) (gNm 3) tYesT (eRes (rBui absF (aCons (eVar 3) aNil))) [3])) (gNm 2))
  (sSeq (sAsg (eRes (rBin addA (eCon (.int 15485863)) (eVar 1))) (gNm 4))
  (sSeq (sFor (iAny [0, 1] (eVar 2)) (gNm 3) eb_deal)
  (sSeq (sAsg (eOf (fComp (iAny [0, 1] (eVar 2)) (gNm 3) (tBl (eBin geP (eVar 3) (eBin powP (eCon (.int 10)) (eCon (.int 18))))) (eVar 3) [3])) (gNm 5))
  (sRetF (fBox (fRes (rRev (eVar 5))) [("now", (eCon (.int 0))), ("mixed", (eRes (rBin addA (eVar 4) (eCon (.int 1))))), ("turn", (eCon (.int 0)))]))))))
def F_deal : FSem := fDef 6 [0, 1] ev_deal
def absI (i : Int) : Int := if i < 0 then -i else i
theorem deal_spec (ns : List Int) (base : Int) (hb : 0 ≤ base ∧ base < 1000) (hl : ns.length ≤ 63) : ∃ o, F_deal [.t (.scr ns), .t (.int base)] = .ret (.ow o) [.t (.scr ns), .t (.int base)] ∧ IsBox 0 o := by
  obtain ⟨cs, hcs⟩ : ∃ cs, cs = (ns.drop (HT.sIx ns.length 0 (some base))).take (HT.sIx ns.length ns.length (some 63) - HT.sIx ns.length 0 (some base)) := ⟨_, rfl⟩
  have lcs : cs.length ≤ 63 := by rw [hcs, List.length_take, List.length_drop]; omega
  have hcut : cutP (ns.map PV.int) (some base) (some 63) = cs.map PV.int := by rw [cutP_map, hcs]
  -- the cells
  have c1 : compL (gNm 3) tYesT (eRes (rBui absF (aCons (eVar 3) aNil))) [3] (alive (.tr .non) (cs.map PV.int)) (cs.map PV.int) [] [some (.t (.scr ns)), some (.t (.int base)), none, none, none, none] =
      .ok ((cs.map absI).map PV.int) [some (.t (.scr ns)), some (.t (.int base)), none, none, none, none] := by
    refine (compM (f := fun t => match t with | .int i => .int (absI i) | t => t) rfl rfl _ (by simp; unfold LIM; omega) (fun t ht => ?_)).trans ?_
    rotate_left
    · simp [List.map_map, Function.comp_def]
    · obtain ⟨i, _, rfl⟩ := List.mem_map.mp ht
      simp [absF, absI]
  obtain ⟨ds, hds⟩ : ∃ ds, ds = cs.map absI := ⟨_, rfl⟩
  rw [← hds] at c1
  have lds : ds.length ≤ 63 := by rw [hds, List.length_map]; exact lcs
  have nds : ∀ d ∈ ds, 0 ≤ d := fun d hd => by
    rw [hds] at hd
    obtain ⟨i, _, rfl⟩ := List.mem_map.mp hd
    unfold absI; split <;> omega
  have c2 : ∀ m : Int, compL (gNm 3) (tBl (eBin geP (eVar 3) (eBin powP (eCon (.int 10)) (eCon (.int 18))))) (eVar 3) [3] (alive (.tr .non) (ds.map PV.int)) (ds.map PV.int) [] [some (.t (.scr ns)), some (.t (.int base)), some (.t (.lst (ds.map .int))), none, some (.t (.int m)), none] =
      .ok ((ds.filter fun d => decide (10 ^ 18 ≤ d)).map PV.int) [some (.t (.scr ns)), some (.t (.int base)), some (.t (.lst (ds.map .int))), none, some (.t (.int m)), none] := fun m => by
    refine (comp1 (p := fun t => match t with | .int i => decide (10 ^ 18 ≤ i) | _ => false) (f := id) rfl rfl _ (by simp; unfold LIM; omega) (fun t ht => ?_)).trans ?_
    rotate_left
    · simp [List.filter_map, Function.comp_def]
    · obtain ⟨i, _, rfl⟩ := List.mem_map.mp ht
      simp [powP]
  -- the loop
  have lp : ∃ e, sFor (iAny [0, 1] (eVar 2)) (gNm 3) eb_deal [some (.t (.scr ns)), some (.t (.int base)), some (.t (.lst (ds.map .int))), none, some (.t (.int (15485863 + base))), none] = .nx e ∧
      ∃ x m, e = [some (.t (.scr ns)), some (.t (.int base)), some (.t (.lst (ds.map .int))), x, some (.t (.int m)), none] ∧ (x = none ∨ ∃ t, x = some (.t t)) ∧ 0 ≤ m ∧ m < 2 ^ 31 := by
    refine sat_nx ?_
    simp only [sFor, iAny, iSeq, eVar, RE.bind, RE.so, List.getElem?_cons_succ, List.getElem?_cons_zero]
    refine loopF_sat (fun ts e => (∀ t ∈ ts, t ∈ ds.map PV.int) ∧ ∃ x m, e = [some (.t (.scr ns)), some (.t (.int base)), some (.t (.lst (ds.map .int))), x, some (.t (.int m)), none] ∧ (x = none ∨ ∃ t, x = some (.t t)) ∧ 0 ≤ m ∧ m < 2 ^ 31) (fun _ _ _ => rfl) (fun _ h => h.2) ?_ _ _ ⟨fun _ h => h, _, _, rfl, .inl rfl, by omega, by omega⟩
    rintro t ts env ⟨h1, x, m, rfl, _, h2, h3⟩
    obtain ⟨i, hi, rfl⟩ := List.mem_map.mp (h1 t List.mem_cons_self)
    refine ⟨_, rfl, ?_⟩
    have p0 := mul_ok (i := m) (j := 16807) h2 (by omega) (by decide) (by decide)
    simp [eb_deal, addA, intF, p0, SO.Sat]
    refine ⟨fun t ht => by simpa using h1 t (List.mem_cons_of_mem _ ht), _, _, ⟨rfl, rfl⟩, .inr ⟨_, rfl⟩, Int.emod_nonneg _ (by decide), ?_⟩
    have := Int.emod_lt_of_pos (m * 16807 + i) (b := 2147483647) (by decide)
    omega
  obtain ⟨e, lp1, x, m, rfl, hx, m0, m1⟩ := lp
  refine ⟨(⟨(ds.filter fun d => decide (10 ^ 18 ≤ d)).reverse, 0, m + 1, 0⟩ : Box).os, ?_, _, rfl, ⟨fun y hy => ?_, ?_, Int.le_refl 0, by show 0 ≤ m + 1 ∧ m + 1 ≤ _; omega, Int.le_refl 0⟩, Int.le_refl 0⟩
  · simp only [F_deal, fDef, ev_deal, sSeq, okArgs, env0]
    rcases hx with rfl | ⟨t, rfl⟩ <;> simp [hcut, c1, slA, addA, lp1, c2, fBox, intsP_rev, bPairs, Box.os]
  · have := (List.mem_filter.mp (List.mem_reverse.mp hy)).2
    have := of_decide_eq_true this
    omega
  · show (List.reverse _).length ≤ 100
    rw [List.length_reverse]
    have := List.length_filter_le (fun d => decide ((10 : Int) ^ 18 ≤ d)) ds
    omega
end A
end TreeL
end
section
/-! TL22: picking, mixing (family A). -/
namespace TreeL
open PySem PySem.Spec PyProof.Rows L2
theorem atI_in {α : Type} {xs : List α} {r : Int} (h0 : 0 ≤ r) (h1 : r < xs.length) : ∃ x, atI xs r = some x ∧ x ∈ xs := by
  have hl : r.toNat < xs.length := by omega
  refine ⟨xs[r.toNat], ?_, List.getElem_mem hl⟩
  have e : r = (r.toNat : Int) := by omega
  exact (congrArg (atI xs) e).trans (atI_nat (List.getElem?_eq_getElem hl))
theorem erase_perm {α : Type} : ∀ (xs : List α) (i : Nat) (h : i < xs.length), (xs[i] :: xs.eraseIdx i).Perm xs
  | [], i, h => absurd h (Nat.not_lt_zero _)
  | x :: xs, 0, _ => by simp
  | x :: xs, i + 1, h => by
    have hi : i < xs.length := by simpa using h
    have := erase_perm xs i hi
    simp only [List.getElem_cons_succ, List.eraseIdx_cons_succ]
    exact (List.Perm.swap _ _ _).trans (this.cons x)
theorem rangeL_len {lo : Int} {n : Nat} : (rangeL lo n).length = n := by simp [rangeL]
/-- elements drawn one by one; k counts -/
theorem compS {ea : EvE} {al : En → Bool} {j : Nat} (K : Nat) (I : Nat → En → Prop) (P : PV → Prop) (hal : ∀ k env, I k env → al env = true) : ∀ (ts acc : List PV) (k : Nat) (env : En), acc.length + ts.length ≤ LIM → k + ts.length ≤ K → I k env →
    (∀ t ∈ ts, ∀ k env, k < K → I k env → ∃ x e3, ea (env.set j (some (.t t))) = .ok (.tr x) e3 ∧ P x ∧ I (k + 1) (e3.set j none)) →
    ∃ xs env', compL (gNm j) tYesT ea [j] al ts acc env = .ok (acc ++ xs) env' ∧ xs.length = ts.length ∧ (∀ x ∈ xs, P x) ∧ I (k + ts.length) env'
  | [], acc, k, env, _, _, h, _ => ⟨[], env, by simp [compL, hal _ _ h], rfl, by simp, h⟩
  | t :: ts, acc, k, env, hl, hK, h, hs => by
    rw [List.length_cons] at hl hK
    obtain ⟨x, e3, q1, q2, q3⟩ := hs t List.mem_cons_self k env (by omega) h
    have hlt : acc.length < LIM := by omega
    obtain ⟨xs, env', r1, r2, r3, r4⟩ := compS K I P hal ts (acc ++ [x]) (k + 1) (e3.set j none) (by rw [List.length_append, List.length_singleton]; omega) (by omega) q3 fun t ht => hs t (List.mem_cons_of_mem _ ht)
    refine ⟨x :: xs, env', ?_, by simp [r2], fun y hy => ?_, ?_⟩
    · simp only [compL, hal _ _ h, gNm, tYesT, q1, hlt, wipeE, if_true]
      rw [r1, List.append_assoc]
      rfl
    · rcases List.mem_cons.mp hy with z | z
      · rw [z]; exact q2
      · exact r3 y z
    · rw [List.length_cons]
      have : k + (ts.length + 1) = k + 1 + ts.length := by omega
      rw [this]; exact r4
namespace A
def ev_pick : EvS := (sRet [0, 1] (eBin ixP (eVar 1) (eRes (rCall 2 F_draw [] (aCons (eVar 0) (aCons (eRes (rBui lenF (aCons (eVar 1) aNil))) aNil))))))
def F_pick : FSem := fDef 2 [0, 1] ev_pick
theorem pick_spec {n : Int} {o : OS} {xs : List PV} (h : IsBox n o) (hn : n ≤ 2 ^ 40) (h0 : 0 < xs.length) (hm : xs.length < 2 ^ 40) : ∃ x o', F_pick [.ow o, .t (.lst xs)] = .ret (.t x) [.ow o', .t (.lst xs)] ∧ x ∈ xs ∧ IsBox (n + 1) o' := by
  obtain ⟨r, o', q, r0, r1, hb⟩ := draw_spec (m := xs.length) h hn (by omega) (by omega)
  obtain ⟨x, qx, hx⟩ := atI_in r0 r1
  refine ⟨x, o', ?_, hx, hb⟩
  simp [F_pick, fDef, ev_pick, lenF, q, ixP, qx]
def eb_mixed : EvS := (sEx (eMut "list" appendO 3 (aCons (eMut "list" popO 2 (aCons (eRes (rCall 2 F_draw [] (aCons (eVar 0) (aCons (eRes (rBui lenF (aCons (eVar 2) aNil))) aNil)))) aNil)) aNil)))
def ev_mixed : EvS := (sSeq (sPar 2 3 (bCons (rOwn (fRes (rBui listF (aCons (eVar 1) aNil)))) (bCons (rOwn (fLst aNil)) bNil)))
  (sSeq (sLoop (tBl (eBin neP (eVar 2) (eLst aNil))) eb_mixed 1000)
  (sRet [0, 1] (eVar 3))))
def F_mixed : FSem := fDef 4 [0, 1] ev_mixed
theorem mixed_spec {n : Int} {o : OS} {xs : List PV} (h : IsBox n o) (hn : n + xs.length ≤ 2 ^ 40) (hm : xs.length < 1000) (hd : ∀ x ∈ xs, dat 63 x = true) :
    ∃ ys o', F_mixed [.ow o, .t (.lst xs)] = .ret (.ow (.lst ys)) [.ow o', .t (.lst xs)] ∧ ys.Perm xs ∧ IsBox (n + xs.length) o' := by
  have lp : ∃ e, sLoop (tBl (eBin neP (eVar 2) (eLst aNil))) eb_mixed 1000 [some (.ow o), some (.t (.lst xs)), some (.ow (.lst xs)), some (.ow (.lst []))] = .nx e ∧
      ∃ o' ys, e = [some (.ow o'), some (.t (.lst xs)), some (.ow (.lst [])), some (.ow (.lst ys))] ∧ ys.Perm xs ∧ IsBox (n + xs.length) o' := by
    refine sat_nx ?_
    refine sLoop_sat (fun m e => ∃ o' ls ys, e = [some (.ow o'), some (.t (.lst xs)), some (.ow (.lst ls)), some (.ow (.lst ys))] ∧ (ys ++ ls).Perm xs ∧ m = ls.length ∧ IsBox (n + ys.length) o') ?_ 1000 xs.length _ hm ⟨o, xs, [], rfl, by simp, rfl, by simpa using h⟩
    rintro m env ⟨o', ls, ys, rfl, hp, rfl, hb⟩
    have hdl : datL 63 ls = true := by
      rw [datL_all, List.all_eq_true]
      exact fun x hx => hd x (hp.subset (List.mem_append_right _ hx))
    have hlen := hp.length_eq
    rw [List.length_append] at hlen
    cases ls with
    | nil =>
      refine ⟨false, _, by simp [neP, dat, datL, peq, peqL]; rfl, ?_⟩
      simp at hp hlen
      exact ⟨o', ys, rfl, hp, by rw [← hlen]; exact hb⟩
    | cons l ls =>
      have hd1 : dat 63 l = true := hd l (hp.subset (List.mem_append_right _ List.mem_cons_self))
      have hd2 : datL 63 ls = true := by rw [datL_all, List.all_eq_true] at hdl ⊢; exact fun x hx => hdl x (List.mem_cons_of_mem _ hx)
      refine ⟨true, _, by simp [neP, dat, hd1, hd2, datL, peq, peqL]; rfl, ?_⟩
      rw [if_pos rfl]
      rw [List.length_cons] at hlen
      obtain ⟨r, o2, q, r0, r1, hb2⟩ := draw_spec (m := (l :: ls).length) hb (by omega) (by simp only [List.length_cons]; omega) (by simp only [List.length_cons]; omega)
      have hr : r.toNat < (l :: ls).length := by omega
      have hsi : seqIndex? r (ls.length + 1) = some r.toNat := by
        rw [List.length_cons] at r1
        have h1 : ¬ r < 0 := by omega
        simp only [seqIndex?, if_neg h1]
        have h2 : r < (((ls.length + 1 : Nat)) : Int) := r1
        have h3 : r < (ls.length : Int) + 1 := by omega
        simp [r0, h3]
      have hx : (l :: ls)[r.toNat]? = some (l :: ls)[r.toNat] := List.getElem?_eq_getElem hr
      have hbd : -9223372036854775808 ≤ r ∧ r < 9223372036854775808 := by rw [List.length_cons] at r1; omega
      have hyl : ys.length < LIM := by unfold LIM; omega
      have q' : F_draw [.ow o', .t (.int ((ls.length : Int) + 1))] = .ret (.t (.int r)) [.ow o2, .t (.int ((ls.length : Int) + 1))] := by simpa using q
      simp [eb_mixed, eMut, isTyO, lenF, q', popO, hbd, hsi, hx, appendO, hyl, SO.Sat]
      have pe : ((l :: ls)[r.toNat] :: (l :: ls).eraseIdx r.toNat).Perm (l :: ls) := erase_perm _ _ hr
      have le : ((l :: ls).eraseIdx r.toNat).length = ls.length := by rw [List.length_eraseIdx, if_pos hr]; simp
      refine ⟨_, ?_, _, _, _, ⟨rfl, rfl, rfl⟩, ?_, rfl, ?_⟩
      · rw [le]; omega
      · rw [List.append_assoc]
        exact (List.Perm.append_left ys pe).trans hp
      · rw [List.length_append, List.length_singleton]
        have : n + ((ys.length + 1 : Nat) : Int) = n + ys.length + 1 := by omega
        rw [this]; exact hb2
  obtain ⟨e, lp1, o', ys, rfl, hp, hb⟩ := lp
  refine ⟨ys, o', ?_, hp, hb⟩
  simp [F_mixed, fDef, ev_mixed, listF, lp1]
end A
end TreeL
end
section
/-! TL23: own exceptions are made: super().__init__(p); self.f = p. -/
namespace TreeX
open PySem PySem.Spec PySem.W PySem.Calls PyProof.Rows Builtin Builtin.ObjectAttr
/-- the shape of such an __init__: self, the parameter, the field -/
def shapeOf : List Stmt → Option (Str × Str × Str)
  | [.Expr (.Call (.Attribute (.Call (.Name su _) [] [] _) ini a3) [.Name p _] [] a5) _, .Assign [.Attribute (.Name se _) f _] (.Name q _) _] => if su = "super" ∧ ini = "__init__" ∧ q = p ∧ (a3.endLine == a5.line) = true then some (se, p, f) else none
  | _ => none
theorem shape_is {body : List Stmt} {se p f : Str} (h : shapeOf body = some (se, p, f)) : ∃ a1 a2 a3 a4 a5 a6 b1 b2 b3 b4, (a3.endLine == a5.line) = true ∧ body = [.Expr (.Call (.Attribute (.Call (.Name "super" a1) [] [] a2) "__init__" a3) [.Name p a4] [] a5) a6, .Assign [.Attribute (.Name se b1) f b2] (.Name p b3) b4] := by
  unfold shapeOf at h
  split at h
  · split at h
    · rename_i z
      obtain ⟨rfl, rfl, rfl, zz⟩ := z
      cases h
      exact ⟨_, _, _, _, _, _, _, _, _, _, zz, rfl⟩
    · cases h
  · cases h
/-- the record of such an exception -/
abbrev recX (C t : Addr) (d : Option Addr) : Obj := { cls := .ref C, dict := d, data := .fields #[.ref t, .none, .none, .none, .bool false, .none] }
section
variable {prog : Program} {w : World} {A : Around} {E : Value → Shared → Prop} {h : Heap} {g : Array GenState} {d : Drawn} {t : Nat} {os : OsState} {K : Frag} {B i newId : String} {bmB : List Value} {C e u t0 : Addr}
/-- the bound built-in __init__ is called -/
theorem call_wrap {rest : List Value} {Q : Value → Shared → Prop} (X : K.In h) (FB : ExcBaseFacts B newId i bmB) (q : excInitIn K C bmB newId = true) (hu : h.get? u = some (kxs_mw i e)) (he : h.get? e = some (recX C t0 none)) (hz : rest.length ≤ sizeLine)
    (fin : ∀ h' t1, (∀ b o, b ≠ e → h.get? b = some o → h'.get? b = some o) → h'.get? e = some (recX C t1 none) → Q .none ⟨h', g, d, t, os⟩) : wpAny (model prog w) A (call (.ref u) rest) Q E ⟨h, g, d, t, os⟩ := by
  obtain ⟨nm, N', qn, bs, bm, hdct, sn, sub, ab, col, dd, k0, k1, k2, k3, k5, hC, hT⟩ := excInit_of X q
  refine wpAny_call (codeAny_of_tree (show wpAny _ A.in1 (callAny (.ref u) ⟨rest, []⟩) _ _ _ from ?_))
  unfold callAny
  refine wpAny_bind (wpAny_load hu ?_)
  dsimp only [kxs_mw]
  rw [show (Value.type "method-wrapper" == Value.type "method" || Value.type "method-wrapper" == Value.type "builtin_function_or_method" || Value.type "method-wrapper" == Value.type "method-wrapper") = true by decide]
  refine KFB.if_so (by decide) (wpAny_bind (check_bound_init FB.toExcCallFacts hC he rfl (wpAny_bind (wpAny_pure (wpAny_pure ⟨plainId_quiet FB.init.plain _, codeAny_builtin FB.initEntry ?_⟩)))))
  exact exc_init_tree (cls := .ref C) (t0 := t0) (dv := none) (c2 := .none) (c3 := .none) (b4 := .bool false) he hz fun h' k1 k2 _ => fin h' _ k1 k2
/-- self.f = u, the first one -/
theorem store_first {f : Str} {v : Value} {Q : Unit → Shared → Prop} {cd : ClassData} (X : K.In h) (SF : StoreFacts B bmB "object.__setattr__" "object") (hov : excOver K C bmB = true) (hcd : clsIn K C = some cd) (hd : cd.hasDict = true) (hsa : findIn K (.ref C) "__setattr__" = some (some (.builtin "object.__setattr__")))
    (ht : takerIn K C f = some none) (he : h.get? e = some (recX C t0 none))
    (fin : ∀ h' tk dx, (∀ b o, b ≠ e → h.get? b = some o → h'.get? b = some o) → h.objs.size ≤ dx → dx ≠ e → h'.get? e = some (recX C t0 (some dx)) → h'.Ns1 dx (fun y => if y = f then some v else none) → Q () ⟨h', g, d, tk, os⟩) :
    wpAny (model prog w) A (setAttr (.ref e) f v) Q E ⟨h, g, d, t, os⟩ := by
  have I : InstAt h e (recX C t0 none) C none := ⟨he, rfl, rfl, trivial⟩
  have hes : e ≠ h.objs.size := Nat.ne_of_lt (Heap.lt_size he)
  refine set_plain X I hsa ?_
  refine osa_openX SF X I hov ht fun b => ?_
  have hcls : Looks (model prog w) h (classData C) cd := looks_clsIn X hcd
  obtain ⟨nm, bs, mro, ns, qn, hdc, sn, sb, ab, col, del⟩ := cd
  dsimp only at hd
  subst hd
  unfold storeInOwnDict ownDictForStores
  repeat (first | with_reducible refine HandSPX.store_in_new ?_ ?_ | with_reducible refine wpAny_loadPart_at he ?_ | with_reducible refine hcls.at ?_ | wp_step)
  · exact ⟨_, #[], _, (Heap.get?_update_ne _ _ _ _ hes.symm).trans (Heap.get?_push_at rfl rfl), rfl, fun z hz => absurd hz (by simp), fun _ => rfl⟩
  · intro h' tk' hn' hs
    have he₁ : (h.push { cls := .type "dict", data := .dict #[] }).get? e = some (recX C t0 none) := Heap.get?_push_of_some _ he
    refine fin h' tk' h.objs.size (fun b o hb ho => ?_) (Nat.le_refl _) hes.symm ?_ hn'
    · exact (hs.2 b (Nat.ne_of_lt (Heap.lt_size ho))).trans ((Heap.get?_update_ne _ _ _ _ hb).trans (Heap.get?_push_of_some _ ho))
    · exact (hs.2 e hes).trans (Heap.get?_update_self _ he₁ rfl)
end
/-- the function at an address -/
def fdAt (K : Frag) (a : Addr) : FuncData := match K.lookup a with
  | some ⟨_, _, .func fd, _⟩ => fd
  | _ => default
def isFd (K : Frag) (a : Addr) : Bool := match K.lookup a with
  | some ⟨_, _, .func _, _⟩ => true
  | _ => false
theorem fd_at {K : Frag} {a : Addr} (h : isFd K a = true) : ∃ oc od osl, K.lookup a = some ⟨oc, od, .func (fdAt K a), osl⟩ := by
  unfold isFd at h
  split at h
  · rename_i q
    exact ⟨_, _, _, by unfold fdAt; rw [q]⟩
  · cases h
def bodyOf (fd : FuncData) : List Stmt := match fd.body with
  | .stmts b => b
  | _ => []
def isStmts (fd : FuncData) : Bool := match fd.body with
  | .stmts _ => true
  | _ => false
theorem body_is {fd : FuncData} (h : isStmts fd = true) : fd.body = .stmts (bodyOf fd) := by
  unfold isStmts at h
  split at h
  · rename_i q
    unfold bodyOf; rw [q]
  · cases h
/-- the names of plain parameters -/
def parsOf (a : Arguments) : Option (List Str) := match a with
  | ⟨[], xs, none, [], [], none, []⟩ => some (xs.map (·.arg))
  | _ => none
def fileIn (K : Frag) (a : Addr) : Option Str := match K.lookup a with
  | some ⟨_, _, .fields vs, _⟩ => (match vs[2]? with | some (Value.str f _) => some f | _ => none)
  | _ => none
theorem file_at {K : Frag} {a : Addr} {f : Str} (h : fileIn K a = some f) : ∃ oc od osl vs tf, K.lookup a = some ⟨oc, od, .fields vs, osl⟩ ∧ vs[2]? = some (.str f tf) := by
  unfold fileIn at h
  split at h
  · rename_i q
    split at h
    · rename_i r
      cases h
      exact ⟨_, _, _, _, _, q, r⟩
    · cases h
  · cases h
def cellIn (K : Frag) (a : Addr) : Option Value := match K.lookup a with
  | some ⟨_, _, .cell v, _⟩ => v
  | _ => none
theorem cell_at {K : Frag} {a : Addr} {v : Value} (h : cellIn K a = some v) : ∃ oc od osl, K.lookup a = some ⟨oc, od, .cell (some v), osl⟩ := by
  unfold cellIn at h
  split at h
  · rename_i q
    rw [h] at q
    exact ⟨_, _, _, q⟩
  · cases h
theorem binds3 {fd : FuncData} {p : Str} (h : parsOf fd.params = some [("self" : Str), p]) (hp : p = "word" ∨ p = "at" ∨ p = "name") (hd : fd.defaults = .none) (s : Shared) (a u : Value) : BindsTo s fd ⟨[a, u], []⟩ [(("self" : Str), a), (p, u)] := by
  obtain ⟨n, q, pr, b, sc, gl, cl, df, kd, dc, pm, an, cd, ct, bl⟩ := fd
  dsimp only at h hd
  subst hd
  unfold parsOf at h
  split at h
  · rename_i xs
    have e : xs.map (·.arg) = [("self" : Str), p] := Option.some.inj h
    match xs, e with
    | [⟨x, a1, r1⟩, ⟨y, a2, r2⟩], e =>
      simp only [List.map_cons, List.map_nil, List.cons.injEq, and_true] at e
      obtain ⟨rfl, rfl⟩ := e
      rcases hp with rfl | rfl | rfl <;> exact .of_eq rfl
  · cases h
theorem pars_head {a : Arguments} {x : Str} {r : List Str} (h : parsOf a = some (x :: r)) : ∃ ar : Arg, (a.posonlyargs ++ a.args).head? = some ar ∧ ar.arg = x := by
  unfold parsOf at h
  split at h
  · rename_i xs
    have e : xs.map (·.arg) = x :: r := Option.some.inj h
    match xs, e with
    | y :: ys, e =>
      simp only [List.map_cons, List.cons.injEq] at e
      exact ⟨y, rfl, e.1⟩
  · cases h
/-- what the written part says of an own exception's class with such an __init__ -/
structure XcF (prog : Program) (K : Frag) (B i newId : String) (bmB : List Value) (C fI cc cda : Addr) (f : Str) (cd : ClassData) : Prop where
  FB : ExcBaseFacts B newId i bmB
  KF : KxsFacts B i
  SF : StoreFacts B bmB "object.__setattr__" "object"
  ini : excInitIn K C bmB newId = true
  ov : excOver K C bmB = true
  hi : findIn K (.ref C) "__init__" = some (some (.ref fI))
  fn : isFn K (.ref fI) = true
  fd : isFd K fI = true
  clo : (fdAt K fI).closure = [(("__class__" : Str), cc)]
  st : isStmts (fdAt K fI) = true
  sh : shapeOf (bodyOf (fdAt K fI)) = some (("self" : Str), f, f)
  code : (fdAt K fI).code = .ref cda
  glo : (fdAt K fI).globals = mainGlobals
  bui : (fdAt K fI).builtins = builtinsNs
  dfl : (fdAt K fI).defaults = .none
  par : parsOf (fdAt K fI).params = some [("self" : Str), f]
  nam : f = "word" ∨ f = "at" ∨ f = "name"
  cod : codeIn K (.ref cda) (fdAt K fI).qualname = true
  fil : fileIn K cda = some prog.main.file
  top : (prog.main.scope.names.lookup ("super" : Str)).isSome = false
  cel : cellIn K cc = some (.ref C)
  cls : clsIn K C = some cd
  hd : cd.hasDict = true
  mro : mroIn K C (.ref C) = some true
  sup : nsIn K mainGlobals "super" = some none
  tpa : nsIn K cStatics "thirdparty.any" = some none
  sin : ks_superIn K C C "__init__" = some (some (.builtin i))
  sub : subIn K (.ref C) (.type B) = some true
  seta : findIn K (.ref C) "__setattr__" = some (some (.builtin "object.__setattr__"))
  tak : takerIn K C f = some none
  s1 : (fdAt K fI).scope.names.lookup ("super" : Str) = some .globalImplicit
  s2 : (fdAt K fI).scope.names.lookup ("__class__" : Str) = some .free
  s3 : (fdAt K fI).scope.names.lookup ("self" : Str) = some .local
  s4 : (fdAt K fI).scope.names.lookup f = some .local
  s5 : (fdAt K fI).scope.kind = .function
  s6 : (fdAt K fI).scope.isCoroutine = false
  s7 : (fdAt K fI).scope.isGenerator = false
  s8 : (fdAt K fI).scope.names.all (fun x => decide (x.2 ≠ .cell)) = true
section
variable {prog : Program} {w : World} {A : Around} {R : Result → Shared → Prop} {h : Heap} {g : Array GenState} {d : Drawn} {t : Nat} {os : OsState} {K : Frag} {B i newId : String} {bmB : List Value} {C fI cc cda e t0 : Addr} {f : Str} {cd : ClassData} {mg mb : Str → Option Value} {u : Value}
theorem nsKeep {h h' : Heap} {L : Addr} {m : Str → Option Value} (n : h.Ns L m) (k : ∀ b o, h.get? b = some o → h'.get? b = some o) : h'.Ns L m := by
  obtain ⟨o, es, ep, a, r⟩ := n
  exact ⟨o, es, ep, k _ _ a, r⟩
theorem ev_local {M : Model} {E : Value → Shared → Prop} {s : Shared} {env : Env} {m : Str → Option Value} {x : Str} {pos : Pos} {v : Value} {Q : Value → Shared → Prop} (hn : s.heap.Ns env.locals m) (hv : m x = some v) (q : Q v s) (hk : env.scope.kind = .function) (hl : env.kindOf x = some .local) (hd : (x == ("__debug__" : Str)) = false) :
    wpAny M A (eval (.Name x pos) env) Q E s := wpAny_Name (wpAny_loadName_local hk hl hn hv q) hd
/-- such an __init__ is run -/
theorem run_init (T : XcF prog K B i newId bmB C fI cc cda f cd) (X : K.In h) (hg : h.Ns mainGlobals mg) (hb : h.Ns builtinsNs mb) (hbb : ∀ x : Str, x ≠ "__name__" → mb x = bootBuiltins x) (hlim : h.NoLimit) (hroom : A.depth < recursionLimit) (he : h.get? e = some (recX C t0 none)) (heK : K.lookup e = none)
    (fin : ∀ h' tk t1 dx, (∀ b o, b ≠ e → h.get? b = some o → h'.get? b = some o) → h.objs.size ≤ dx → dx ≠ e → h'.get? e = some (recX C t1 (some dx)) → h'.Ns1 dx (fun y => if y = f then some u else none) → R (.ok (.ret .none)) ⟨h', g, d, tk, os⟩) :
    codeAny (model prog w) A (.call (.ref fI) ⟨[.ref e, u], []⟩) R ⟨h, g, d, t, os⟩ := by
  obtain ⟨oc, od, osl, hlk⟩ := fd_at T.fd
  obtain ⟨ccl, cdd, ccs, vs, tf, hcode, hvs⟩ := file_at T.fil
  obtain ⟨cl, cld, csl, hcell⟩ := cell_at T.cel
  obtain ⟨ar, har, hse⟩ := pars_head T.par
  obtain ⟨a1, a2, a3, a4, a5, a6, b1, b2, b3, b4, hline, hbody⟩ := shape_is T.sh
  have fself : (f == ("self" : Str)) = false := by rcases T.nam with rfl | rfl | rfl <;> decide +kernel
  have fdbg : (f == ("__debug__" : Str)) = false := by rcases T.nam with rfl | rfl | rfl <;> decide +kernel
  have hne : ("self" : Str) ≠ f := fun z => by rw [← z] at fself; exact absurd fself (by decide +kernel)
  have hloc : ∀ x ∈ ([(("self" : Str), Value.ref e), (f, u)] : List (Str × Value)), (fdAt K fI).scope.names.lookup x.1 = some .local := by
    intro x hx
    simp only [List.mem_cons, List.not_mem_nil, or_false] at hx
    rcases hx with rfl | rfl
    · exact T.s3
    · exact T.s4
  obtain ⟨oD, hD1, hD2⟩ : ∃ oD, h.get? C = some oD ∧ oD.data = .cls cd := by
    have hD := T.cls
    unfold clsIn at hD
    split at hD
    · rename_i ho
      cases hD
      exact ⟨_, X _ _ ho, rfl⟩
    · cases hD
  refine ks_codeAny_call_defAt (fd := fdAt K fI) (body := bodyOf (fdAt K fI)) (binds := [(("self" : Str), .ref e), (f, u)]) hroom (X _ _ hlk) rfl hlim (by rw [T.code]; exact codeRec_of X T.cod) (body_is T.st) (binds3 T.par T.nam T.dfl _ _ _) (fun x hx => of_decide_eq_true (List.all_eq_true.mp T.s8 x hx)) hloc (fun h₁ hns k1 => ?_) T.s6 T.s7 T.s5
  rw [hbody]
  generalize hev : callEnv (fdAt K fI) h.objs.size fI = env
  have e1 : env.scope = (fdAt K fI).scope := by rw [← hev]; rfl
  have e2 : env.locals = h.objs.size := by rw [← hev]; rfl
  have e3 : env.cells = [(("__class__" : Str), cc)] := by rw [← hev]; exact T.clo
  have e4 : env.func = some fI := by rw [← hev]; rfl
  have e5 : env.code = .ref cda := by rw [← hev]; exact T.code
  have e6 : env.globals = mainGlobals := by rw [← hev]; exact T.glo
  have e7 : env.builtins = builtinsNs := by rw [← hev]; exact T.bui
  have ek : env.scope.kind = .function := by rw [e1]; exact T.s5
  have ko : ∀ {x : Str} {k : NameKind}, (fdAt K fI).scope.names.lookup x = some k → env.kindOf x = some k := fun {x k} z => by
    show env.scope.names.lookup x = _
    rw [e1]; exact z
  have X1 : K.In h₁ := X.keeps k1
  have hmc : eval (.Call (.Attribute (.Call (.Name "super" a1) [] [] a2) "__init__" a3) [.Name f a4] [] a5) env = (do
      let ov ← attributeBase (.Call (.Name "super" a1) [] [] a2) "__init__" env (eval (.Call (.Name "super" a1) [] [] a2) env)
      standAt a3.atName
      let (z, first) ← holding [ov] (getMethod ov "__init__" (L2.plainOf (.Call (.Name "super" a1) [] [] a2) env))
      callWith a5 z first (backTo a5 (starEach [.Name f a4] env)) []) := by
    show (do let ov ← attributeBase (.Call (.Name "super" a1) [] [] a2) "__init__" env (eval (.Call (.Name "super" a1) [] [] a2) env); standAt a3.atName; methodCall (.Call (.Name "super" a1) [] [] a2) "__init__" a3 a5 env ov 1 (backTo a5 (starEach [.Name f a4] env)) (backToKw a5 (keywordEach [] env))) = _
    simp only [L2.mcall_line (o := .Call (.Name "super" a1) [] [] a2) (env := env) (n := 1) (args := backTo a5 (starEach [.Name f a4] env)) (kws := backToKw a5 (keywordEach [] env)) (by rfl) hline]
    rfl
  refine ks_wpAt_execs_cons (ks_wpAt_Expr_any (ks_wpAt_MethodCall (pl := L2.plainOf (.Call (.Name "super" a1) [] [] a2) env) ?_ hmc) ?_ rfl)
  rotate_left
  · unfold interactive; rw [ek]; rfl
  have lself : ([(("self" : Str), Value.ref e), (f, u)] : List (Str × Value)).reverse.lookup ("self" : Str) = some (Value.ref e) := by
    show List.lookup _ [(f, u), (("self" : Str), Value.ref e)] = _
    have : (("self" : Str) == f) = false := by
      rcases T.nam with rfl | rfl | rfl <;> decide +kernel
    simp [List.lookup, this]
  have lf : ([(("self" : Str), Value.ref e), (f, u)] : List (Str × Value)).reverse.lookup f = some u := by
    show List.lookup _ [(f, u), (("self" : Str), Value.ref e)] = _
    simp [List.lookup]
  refine ks_wpAt_super_base (env := env) (ko T.s1) (ko T.s2) rfl e4 (X1 _ _ hlk) rfl har e5 (X1 _ _ hcode) rfl hvs (beq_self_eq_true _) T.top ?_
  refine ks_loadName_global ek (ko T.s1) (loadGlobal_builtin (by rw [e6]; exact nsKeep hg k1) (mg_none_of X hg T.sup) (by rw [e7]; exact nsKeep hb k1) ((hbb _ (by decide +kernel)).trans (by first | rfl | kernel_rfl)) ⟨rfl, ?_⟩)
  refine wpAny_loadName_free ek (ko T.s2) (by rw [e3]; rfl) ⟨_, X1 _ _ hcell, rfl⟩ ?_
  rw [hse]
  refine wpAny_loadName_local ek (ko T.s3) (by rw [e2]; exact hns) lself ?_
  refine ks_wpAny_isType_cls (k1 _ _ hD1) hD2 ⟨rfl, ?_⟩
  refine ks_wpAny_call_super (k1 _ _ hD1) hD2 (k1 _ _ he) rfl (fun c z => by cases z) (looks_mroIn X1 T.mro) (fun h₂ hso k2 => ?_)
  have X2 : K.In h₂ := X1.keeps k2
  have he2 : h₂.get? e = some (recX C t0 none) := k2 _ _ (k1 _ _ he)
  have I2 : InstAt h₂ e (recX C t0 none) C none := ⟨he2, rfl, rfl, trivial⟩
  have hm : ∃ l, (cd.mro.dropWhile (· != .ref C)).drop 1 = l ∧ alongIn K "__init__" l = some (some (.builtin i)) := by
    have z := T.sin
    unfold ks_superIn at z
    rw [T.cls] at z
    exact ⟨_, rfl, z⟩
  obtain ⟨l, hl, hal⟩ := hm
  refine kxs_getMethod T.KF hso (looks_opaque X2 T.tpa) (l₀ := cd.mro) (fun A Q E s k q => wpAny_bind ((looks_clsIn X2 T.cls) A _ E s k (wpAny_pure q))) hl X2 hal (I2.type.andThen (looks_subIn X2 T.sub)) (ks_ne X2 I2 T.cls) rfl ?_
  have k3 : ∀ b o, h₂.get? b = some o → (h₂.push (kxs_mw i e)).get? b = some o := fun b o z => Heap.get?_push_of_some _ z
  have hmw : (h₂.push (kxs_mw i e)).get? h₂.objs.size = some (kxs_mw i e) := Heap.get?_push_at rfl rfl
  have hns3 : (h₂.push (kxs_mw i e)).Ns env.locals (fun y => ([(("self" : Str), Value.ref e), (f, u)] : List (Str × Value)).reverse.lookup y) := by rw [e2]; exact nsKeep (nsKeep hns k2) k3
  refine kxs_callWith (i := i) (x := e) rfl (evalArgs_plain ?_)
  have hsp : ∀ {M : Model} {A : Around} {E : Value → Shared → Prop} {s : Shared} {Q : List Value → Shared → Prop}, s.heap.Ns env.locals (fun y => ([(("self" : Str), Value.ref e), (f, u)] : List (Str × Value)).reverse.lookup y) → Q [u] s → wpAny M A (spliced (backTo a5 (starEach [.Name f a4] env))) Q E s := fun hn q =>
    spliced_more (ev_local hn lf (spliced_none q) ek (ko T.s4) fdbg)
  refine hsp hns3 ⟨hmw, ?_⟩
  refine call_wrap (K := K) (X2.keeps k3) T.FB T.ini hmw (k3 _ _ he2) (show 1 ≤ sizeLine by decide) fun h₄ t1 k4 he4 => ?_
  have kA : ∀ b o, b ≠ e → h₁.get? b = some o → h₄.get? b = some o := fun b o n z => k4 b o n (k3 _ _ (k2 _ _ z))
  have Le : env.locals ≠ e := by
    rw [e2]; exact fun z => absurd (Heap.lt_size he) (by rw [← z]; exact Nat.lt_irrefl _)
  have hns4 : h₄.Ns env.locals (fun y => ([(("self" : Str), Value.ref e), (f, u)] : List (Str × Value)).reverse.lookup y) := by
    obtain ⟨o, es, ep, z, r⟩ := hns3
    exact ⟨o, es, ep, k4 _ _ Le z, r⟩
  dsimp only
  refine ks_wpAt_execs_cons (ks_wpAt_Assign_Attr ?_ rfl)
  refine wpAt_of_wpAny (ev_local hns4 lf (ev_local hns4 lself ?_ ek (ko T.s3) rfl) ek (ko T.s4) fdbg)
  have X4 : K.In h₄ := fun b o z => kA b o (fun y => by rw [y, heK] at z; cases z) (X1 b o z)
  refine store_first (K := K) X4 T.SF T.ov T.cls T.hd T.seta T.tak he4 fun h₅ tk dx k5 hdx hne5 he5 hn5 => ?_
  have up : h.objs.size ≤ h₄.objs.size := by
    rcases Nat.lt_or_ge h₄.objs.size h.objs.size with q | q
    · obtain ⟨oE, hoE⟩ : ∃ o, h₄.get? env.locals = some o := by obtain ⟨o, es, ep, z, r⟩ := hns4; exact ⟨o, z⟩
      have := Heap.lt_size hoE
      rw [e2] at this
      exact absurd (Nat.lt_trans this q) (Nat.lt_irrefl _)
    · exact q
  have R1 := fin h₅ tk t1 dx (fun b o n z => k5 b o n (kA b o n (k1 _ _ z))) (Nat.le_trans up hdx) hne5 he5 hn5
  show PySem.wpAt _ _ _ (execs [] env) _ _ _
  exact wpAt_of_wpAny (wpAny_pure R1)
end
end TreeX
end
section
/-! TL24: raise C(e), of trees. -/
namespace TreeX
open PySem PySem.Spec PyProof.Rows L2 TreeL
section
variable {X : Cx} {B i newId : String} {bmB : List Value} {C fI cc cda : Addr} {f : Str} {cd : ClassData} {e : Expr} {ta : TE} {x : Str} {p pos : Pos}
/-- C(e): an exception, its dict holds e's value -/
theorem pmk_x (T : XcF X.prog X.K B i newId bmB C fI cc cda f cd) (k1 : PySem.W.keepIn X.K (.ref C) = true) (k2 : PySem.W.subIn X.K (.ref C) (.type "BaseException") = some true) (k3 : PySem.W.typeIn X.K (.ref C) = some (.type "type")) (k4 : PySem.W.typeIn X.K (.ref fI) = some (.type "function")) (hr : Room 1 X.A) (hg : Gl X x) (hm : X.mg x = some (.ref C)) (he : PE X e ta)
    (hdb : (x == ("__debug__" : Str)) = false := by decide) (hst : starEach [e] X.env = (false, eval e X.env) :: starEach [] X.env := by rfl) :
    PMk X (.Call (.Name x p) [e] [] pos) (fun σ H Q => ta σ H fun v H1 => ∀ d, H1 d = none → Q (.ref C) (some d) (upd H1 d (.xd [(f, v)]))) := by
  intro pins s σ H Q I h
  refine wpAny_Call_Name_kw (ld_glob I hg hm ?_ hdb)
  have hpa : PA X [e] (tCons ta tNil) := pa_cons he pa_nil hst
  refine PySem.W.callWith_K (h₀ := X.base) I.ok.mod.kin k1 (thn (hpa.run pos pins s σ H (fun vs H1 => match vs with | [v] => ∀ d, H1 d = none → Q (.ref C) (some d) (upd H1 d (.xd [(f, v)])) | _ => False) I h) fun us s1 hh => ?_) hst (by rfl)
  obtain ⟨vs, H1, I1, r1, q1⟩ := hh
  refine ⟨I1.kIn, ?_⟩
  cases r1 with
  | nil => exact q1.elim
  | cons ru rn =>
  cases rn with
  | cons _ _ => exact q1.elim
  | nil =>
    rename_i v u
    show wpAny _ _ (call (.ref C) [u]) _ _ _
    obtain ⟨hp, g, dr, tk, os⟩ := s1
    obtain ⟨nm, N', qn, bs, bm, hdct, sn, sub, ab, col, dd, c0, c1, c2, c3, c5, hC, hT⟩ := PySem.W.excInit_of I1.kIn T.ini
    have kk : ∀ b o, hp.get? b = some o → ((hp.push (PySem.W.kdv_tup [u])).push (PySem.HandSPX.excO C hp.objs.size)).get? b = some o := fun b o e => Heap.get?_push_of_some _ (Heap.get?_push_of_some _ e)
    have hget : ((hp.push (PySem.W.kdv_tup [u])).push (PySem.HandSPX.excO C hp.objs.size)).get? (hp.objs.size + 1) = some (PySem.HandSPX.excO C hp.objs.size) := by heap_get
    obtain ⟨mb, hb1, hb2⟩ := I1.mod.blt
    have KX := I1.kIn
    have hne : hp.get? (hp.objs.size + 1) = none := Heap.get?_none_of_le (Nat.le_succ _)
    refine wpAny_call (PySem.HandSPX.call_own T.FB hT hC (PySem.W.looks_findIn KX T.hi) (fun self => PySem.W.bind_fn KX self k4) (show 1 ≤ sizeLine by decide) ?_)
    refine run_init (mb := mb) T (KX.keeps kk) ((I1.mod.glob.keeps I1.bk).keeps kk) ((hb1.keeps I1.bk).keeps kk) hb2 (I1.nolimit.keeps kk) ?_ hget ?_ fun h' t' t1 dx kz hdx hne' he' hn' => ?_
    · exact (hr.make C [u] []).depth
    · cases z : X.K.lookup (hp.objs.size + 1) with
      | none => rfl
      | some o => rw [KX _ _ z] at hne; cases hne
    · refine ⟨rfl, ?_⟩
      obtain ⟨G, g1, g2⟩ := restrict h' fun b => decide (b ≠ hp.objs.size + 1)
      have gk : ∀ b, b ≠ hp.objs.size + 1 → G.get? b = h'.get? b := fun b hb => g1 b (decide_eq_true hb)
      have ge : G.get? (hp.objs.size + 1) = none := g2 _ (by simp)
      have nha : ∀ {b : Addr} {o : Obj}, hp.get? b = some o → b ≠ hp.objs.size + 1 := fun {b o} z y => by rw [y, hne] at z; cases z
      have hGk : ∀ b o, hp.get? b = some o → G.get? b = some o := fun b o z => by rw [gk b (nha z)]; exact kz b o (nha z) (kk b o z)
      have hszd : hp.objs.size ≤ dx := by
        refine Nat.le_trans ?_ hdx
        rw [Heap.size_push, Heap.size_push]
        exact Nat.le_succ_of_le (Nat.le_succ _)
      have I2 : Inv X pins σ (upd H1 dx (.xd [(f, v)])) ⟨G, g, dr, t', os⟩ := I1.laid (t' := t') (a := dx) (h' := G) hGk hszd
        ⟨_, hn'.at fun o y => (gk dx hne').trans y, fun y => by
          by_cases z : y = f
          · subst z
            simp [List.lookup]
            exact ru
          · have : (y == f) = false := by simpa using z
            simp [List.lookup, this, z]
            trivial⟩
      have n1 : H1 dx = none := I1.hok.fresh hszd
      refine ⟨hp.objs.size + 1, _, _, ⟨G, g, dr, t', os⟩, _, .ref C, some dx, rfl, I2, fun b o z => ?_, ge, he', ⟨rfl, rfl⟩, rfl, rfl, ?_, rfl, I1.bare, raises_own k2 k3, q1 dx n1⟩
      · have hb : b ≠ hp.objs.size + 1 := fun y => by rw [y, ge] at z; cases z
        have z' : G.get? b = some o := z
        rw [gk b hb] at z'
        exact z'
      · rw [upd_ne (Ne.symm hne')]
        exact I1.hok.gone hne
/-- C(): an exception of a class without an __init__ of its own -/
theorem pmk_x0 (F : ExcBaseFacts B newId i bmB) (q : PySem.W.excIn X.K C bmB newId = true) (gC : X.mg x = some (.ref C)) (kC : PySem.W.keepIn X.K (.ref C) = true) (k2 : PySem.W.subIn X.K (.ref C) (.type "BaseException") = some true) (k3 : PySem.W.typeIn X.K (.ref C) = some (.type "type")) (hg : Gl X x)
    (hdb : (x == ("__debug__" : Str)) = false := by decide) : PMk X (.Call (.Name x p) [] [] pos) (fun _ H Q => Q (.ref C) none H) := by
  intro pins s σ H Q I h
  refine wpAny_Call_Name_kw (ld_glob I hg gC ?_ hdb)
  refine PySem.W.callWith_K0 I.kIn kC ?_
  show wpAny _ _ (call (.ref C) []) _ _ _
  obtain ⟨bm, N, nm, qn, bs, hdct, sn, sub, ab, col, dd, c0, c1, c2, c3, c5, mN, hC, hN, hni, T⟩ := exc_obj I.kIn q
  exact wpAny_call_exc_subT F T hC hN hni (fun h' z hm => mk_of I hm (raises_own k2 k3) h (I.hok.gone hm.new)) (Nat.zero_le _)
end
end TreeX
end
section
/-! TL25: raise, try, of trees. -/
namespace TreeL
open PySem PySem.Spec PyProof.Rows L2
/-! ### raise -/
@[simp] def sRaise (k : Nat) (f : Str) (ea : EvE) : EvS := fun env => (ea env).so fun x e => match x with
  | .tr t => .exc ⟨k, [(f, t)]⟩ e
  | .sl _ => .bad
@[simp] def sRaise0 (k : Nat) : EvS := fun env => .exc ⟨k, []⟩ env
section
variable {X : Cx} {c : TC} {r : Ref} {W : WX} {a : Expr} {ea : EvE} {k : Nat} {x f : Str} {p pos pos' : Pos} {B i newId : String} {bmB : List Value} {fI cc cda : Addr} {cd : ClassData}
theorem ts_raise (T : TreeX.XcF X.prog X.K B i newId bmB (c.C k) fI cc cda f cd) (k1 : PySem.W.keepIn X.K (.ref (c.C k)) = true) (k2 : PySem.W.subIn X.K (.ref (c.C k)) (.type "BaseException") = some true) (k3 : PySem.W.typeIn X.K (.ref (c.C k)) = some (.type "type")) (k4 : PySem.W.typeIn X.K (.ref fI) = some (.type "function"))
    (hr : RoomG 1 X.A) (hc : X.calm = true) (tk : Takes X W) (hg : Gl X x) (hm : X.mg x = some (.ref (c.C k))) (ha : PE X a (TEof c r W ea)) (hdb : (x == ("__debug__" : Str)) = false := by decide) (hst : starEach [a] X.env = (false, eval a X.env) :: starEach [] X.env := by rfl) :
    PS X (.Raise (some (.Call (.Name x p) [a] [] pos)) none pos') (TSof c r W (sRaise k f ea)) := by
  refine PS.imp (ps_raise hc tk (TreeX.pmk_x T k1 k2 k3 k4 hr.rm hg hm ha hdb hst)) fun D σ H h => ?_
  obtain ⟨ads, G, env, R, h⟩ := h
  refine ⟨ads, G, env, R, ?_⟩
  unfold sRaise at h
  rw [RE.so_Sat] at h
  refine Sat_mono h (fun t e he => ?_) (fun y e he => XC.of he)
  intro ads' G' H' v R' N' vr d hd
  cases t with
  | sl j => exact he.elim
  | tr t =>
    have st : Step [] H' G' (upd H' d (.xd [(f, v)])) (upd G' d (.xd [(f, v)])) := Step.alloc R'.sub hd
    exact he ads' _ _ σ _ _ (R'.next st) (N'.sub.trans st.sub) ⟨rfl, .inr ⟨d, _, rfl, upd_same, v, [], rfl, Rep.mono st.sub vr, rfl⟩⟩
theorem ts_raise0 (F : ExcBaseFacts B newId i bmB) (q : PySem.W.excIn X.K (c.C k) bmB newId = true) (k1 : PySem.W.keepIn X.K (.ref (c.C k)) = true) (k2 : PySem.W.subIn X.K (.ref (c.C k)) (.type "BaseException") = some true) (k3 : PySem.W.typeIn X.K (.ref (c.C k)) = some (.type "type"))
    (hc : X.calm = true) (tk : Takes X W) (hg : Gl X x) (hm : X.mg x = some (.ref (c.C k))) (hdb : (x == ("__debug__" : Str)) = false := by decide) :
    PS X (.Raise (some (.Call (.Name x p) [] [] pos)) none pos') (TSof c r W (sRaise0 k)) := by
  refine PS.imp (ps_raise hc tk (TreeX.pmk_x0 F q hm k1 k2 k3 hg hdb)) fun D σ H h => ?_
  obtain ⟨ads, G, env, R, h⟩ := h
  exact h ads G H σ _ _ R (Sub.refl G) ⟨rfl, .inl ⟨rfl, rfl⟩⟩
end
/-! ### try -/
theorem PSs.ex {ι : Type} {X : Cx} {st : List Stmt} {P : ι → Prop} {t : ι → TS} (h : ∀ i, P i → PSs X st (t i)) : PSs X st (fun D σ H => ∃ i, P i ∧ t i D σ H) :=
  ⟨fun pins s σ H D I ⟨i, p, q⟩ => (h i p).run pins s σ H D I q⟩
theorem PE.ex {ι : Type} {X : Cx} {e : Expr} {P : ι → Prop} {t : ι → TE} (h : ∀ i, P i → PE X e (t i)) : PE X e (fun σ H Q => ∃ i, P i ∧ t i σ H Q) :=
  ⟨fun pins s σ H Q I ⟨i, p, q⟩ => (h i p).run pins s σ H Q I q⟩
/-- what is pinned within an except suite -/
def refS (H G : Hp) (js : List Nat) (ads : Nat → List Addr) (σ : L2.St) (i : Nat) (a : Addr) : Ref :=
  ⟨H, G, (js.map ads).flatten, (i, .ref a, []) :: js.map fun j => (j, (σ[j]?.join).getD .non, ads j)⟩
theorem refS_pins {H G : Hp} {js : List Nat} {ads : Nat → List Addr} {σ : L2.St} {i : Nat} {a : Addr} : (refS H G js ads σ i a).pins.map Prod.fst = i :: js := by
  simp [refS, Function.comp_def]
/-- all that is owned stands at js, js have values, i is none of them -/
def okS (js : List Nat) (i : Nat) (env : En) : Bool := (!js.contains i && decide (i < env.length)) && (js.all (fun j => match env[j]? with
    | some (some _) => true
    | _ => false) && (List.range env.length).all fun j => match env[j]? with
    | some (some (.ow _)) => js.contains j
    | _ => true)
section
variable {c : TC} {r : Ref} {ads ads2 : Nat → List Addr} {G H G2 H2 : Hp} {σ σ2 : L2.St} {env env2 : En} {js pn : List Nat} {i : Nat} {a : Addr}
theorem okS_own (h : okS js i env = true) {j : Nat} {o : OS} (e : env[j]? = some (some (.ow o))) : j ∈ js := by
  unfold okS at h
  simp only [Bool.and_eq_true] at h
  have lt := (List.getElem?_eq_some_iff.mp e).1
  have z := List.all_eq_true.mp h.2.2 j (List.mem_range.mpr lt)
  rw [e] at z
  simpa using z
theorem okS_i (h : okS js i env = true) : i ∉ js := by
  unfold okS at h
  simp only [Bool.and_eq_true, Bool.not_eq_true'] at h
  intro z
  have := h.1.1
  rw [List.contains_iff_mem.mpr z] at this
  cases this
theorem okS_lt (h : okS js i env = true) : i < env.length := by
  unfold okS at h
  simp only [Bool.and_eq_true] at h
  exact of_decide_eq_true h.1.2
theorem okS_val (h : okS js i env = true) {j : Nat} (hj : j ∈ js) : ∃ x, env[j]? = some (some x) := by
  unfold okS at h
  simp only [Bool.and_eq_true] at h
  have z := List.all_eq_true.mp h.2.1 j hj
  split at z
  · rename_i x q
    exact ⟨_, q⟩
  · cases z
theorem RS.intoS (R : RS c r ads G H σ env) (ok : okS js i env = true) : RS c (refS H G js ads σ i a) (fun j => if j = i then [] else ads j) G H (σ.set i (some (.ref a))) (env.set i none) where
  step := Step.refl R.sub
  len := by simp [R.len]
  slot := fun j => by
    by_cases h : j = i
    · subst h
      rw [if_pos rfl]
      have : (env.set j none)[j]?.join = none := by
        have lt := okS_lt ok
        simp [lt]
      rw [this]
      exact rfl
    · rw [if_neg h, join_set_ne (Ne.symm h), join_set_ne (Ne.symm h)]
      exact R.slot j
  own := fun j b hb => by
    by_cases h : j = i
    · subst h; rw [if_pos rfl] at hb; cases hb
    · rw [if_neg h] at hb
      refine ⟨(R.own j b hb).1, .inl ?_⟩
      have hj : j ∈ js := by
        have z := R.slot j
        cases q : env[j]? with
        | none => rw [q] at z; rw [show ads j = [] from z] at hb; cases hb
        | some y =>
          rw [q] at z
          cases y with
          | none => rw [show ads j = [] from z] at hb; cases hb
          | some y =>
            cases y with
            | ow o => exact okS_own ok q
            | t t =>
              cases w : σ[j]?.join with
              | none => rw [w] at z; exact (show False from z).elim
              | some v => rw [w] at z; rw [z.1] at hb; cases hb
      refine ⟨?_, ?_⟩
      · rw [refS_pins]
        exact List.mem_cons_of_mem _ hj
      · exact List.mem_flatten.mpr ⟨ads j, List.mem_map_of_mem hj, hb⟩
  disj := fun j k b h1 h2 => by
    by_cases e1 : j = i
    · rw [if_pos e1] at h1; cases h1
    · by_cases e2 : k = i
      · rw [if_pos e2] at h2; cases h2
      · rw [if_neg e1] at h1; rw [if_neg e2] at h2
        exact R.disj j k b h1 h2
  pin := fun q hq => by
    rcases List.mem_cons.mp hq with rfl | hq
    · refine ⟨?_, by simp⟩
      have lt : i < σ.length := by rw [← R.len]; exact okS_lt ok
      show (σ.set i (some (.ref a)))[i]? = _
      simp [lt]
    · obtain ⟨j, hj, rfl⟩ := List.mem_map.mp hq
      have hne : j ≠ i := fun z => okS_i ok (z ▸ hj)
      refine ⟨?_, by show (if j = i then [] else ads j) = ads j; rw [if_neg hne]⟩
      show (σ.set i (some (.ref a)))[j]? = some (some ((σ[j]?.join).getD .non))
      rw [List.getElem?_set_ne (Ne.symm hne)]
      obtain ⟨y, hy⟩ := okS_val ok hj
      have z := R.slot j
      rw [hy] at z
      cases w : σ[j]? with
      | none => rw [w] at z; cases y <;> exact (show False from z).elim
      | some u =>
        cases u with
        | none => rw [w] at z; cases y <;> exact (show False from z).elim
        | some v => rfl
theorem RS.outS (R : RS c r ads G H σ env) (ok : okS js i env = true) (hp : r.pins.map Prod.fst = pn) (hpi : pn.contains i = false) (hjs : (pn.all fun j => js.contains j) = true)
    (R2 : RS c (refS H G js ads σ i a) ads2 G2 H2 σ2 env2) : RS c r (fun j => if j = i then [] else ads2 j) G2 H2 (σ2.set i none) (env2.set i none) where
  step := R.step.trans R2.step fun x hx => by
    obtain ⟨l, hl, hx⟩ := List.mem_flatten.mp hx
    obtain ⟨j, hj, rfl⟩ := List.mem_map.mp hl
    rcases (R.own j x hx).2 with z | z
    · exact .inl z.2
    · exact .inr z
  len := by simp [R2.len]
  slot := fun j => by
    by_cases h : j = i
    · subst h
      rw [if_pos rfl]
      have e0 : (env2.set j none)[j]?.join = none := by
        by_cases lt : j < env2.length
        · simp [lt]
        · rw [List.getElem?_eq_none (by simpa using Nat.le_of_not_lt lt)]; rfl
      rw [e0]
      exact rfl
    · rw [if_neg h, join_set_ne (Ne.symm h), join_set_ne (Ne.symm h)]
      exact R2.slot j
  own := fun j b hb => by
    by_cases h : j = i
    · subst h; rw [if_pos rfl] at hb; cases hb
    · rw [if_neg h] at hb
      refine ⟨(R2.own j b hb).1, ?_⟩
      rcases (R2.own j b hb).2 with z | z
      · have hj : j ∈ js := by
          have := z.1
          rw [refS_pins] at this
          rcases List.mem_cons.mp this with y | y
          · exact absurd y h
          · exact y
        have hq := (R2.pin _ (List.mem_cons_of_mem _ (List.mem_map_of_mem (f := fun j => (j, (σ[j]?.join).getD V.non, ads j)) hj))).2
        rw [show ads2 j = ads j from hq] at hb
        exact (R.own j b hb).2
      · exact .inr (R.step.there b z)
  disj := fun j k b h1 h2 => by
    by_cases e1 : j = i
    · rw [if_pos e1] at h1; cases h1
    · by_cases e2 : k = i
      · rw [if_pos e2] at h2; cases h2
      · rw [if_neg e1] at h1; rw [if_neg e2] at h2
        exact R2.disj j k b h1 h2
  pin := fun q hq => by
    have hm : q.1 ∈ pn := by rw [← hp]; exact List.mem_map_of_mem hq
    have hne : q.1 ≠ i := fun z => by
      rw [z] at hm
      rw [List.contains_iff_mem.mpr hm] at hpi
      cases hpi
    have hj : q.1 ∈ js := List.contains_iff_mem.mp (List.all_eq_true.mp hjs q.1 hm)
    have z := R2.pin _ (List.mem_cons_of_mem _ (List.mem_map_of_mem (f := fun j => (j, (σ[j]?.join).getD V.non, ads j)) hj))
    have w := R.pin q hq
    refine ⟨?_, ?_⟩
    · rw [List.getElem?_set_ne (Ne.symm hne), show σ2[q.1]? = some (some ((σ[q.1]?.join).getD .non)) from z.1, w.1]
      rfl
    · show (if q.1 = i then [] else ads2 q.1) = q.2.2
      rw [if_neg hne, show ads2 q.1 = ads q.1 from z.2, w.2]
end
@[simp] def sTry (i : Nat) (js ks yes : List Nat) (body : EvS) (suite : EX → EvS) : EvS := fun env => match body env with
  | .exc x e => if ks.contains x.k then (if yes.contains x.k then (if okS js i e then (match suite x (e.set i none) with
      | .nx e' => .nx (e'.set i none)
      | _ => .bad) else .bad) else .exc x e) else .bad
  | o => o
/-- a suite's promise: y the exception -/
def tSuite (c : TC) (i : Nat) (js ks : List Nat) (ys : EX → EvS) (a : Addr) (cls : Value) (d : Option Addr) : TS := fun D σ H => ∃ q : EX × Ref, (RepX c q.2.G0 q.1 cls d q.2.H0 ∧ (i, V.ref a, []) ∈ q.2.pins ∧ q.2.pins.map Prod.fst = i :: js ∧ ks.contains q.1.k = true) ∧ TSof c q.2 W0 (ys q.1) D σ H
section
variable {X : Cx} {c : TC} {r : Ref} {W : WX} {xs : EvS} {ys : EX → EvS} {i kx : Nat} {js ks yes pn : List Nat} {body suite : List Stmt} {b₀ : Stmt} {n x : Str} {np pos pos' : Pos}
theorem try_core {D : Ends} {σ : L2.St} {H : Hp} {wE : WX} (hp : r.pins.map Prod.fst = pn) (hpi : pn.contains i = false) (hjs : (pn.all fun j => js.contains j) = true)
    (hw : ∀ cls d σ' H' (y : EX), cls = .ref (c.C y.k) → ks.contains y.k = true → (yes.contains y.k = true → ∀ a, H' a = none → tSuite c i js ks ys a cls d { nx := fun σ' H' => D.nx (σ'.set i none) H', rt := D.rt, bk := fun σ' H' => D.bk (σ'.set i none) H', ct := fun σ' H' => D.ct (σ'.set i none) H' } (σ'.set i (some (.ref a))) H') → (yes.contains y.k = false → W cls d σ' H') → wE cls d σ' H')
    (h : TSof c r W (sTry i js ks yes xs ys) D σ H) : TSof c r wE xs D σ H := by
  obtain ⟨ads, G, env, R, h⟩ := h
  refine ⟨ads, G, env, R, ?_⟩
  unfold sTry at h
  cases q : xs env with
  | nx e => rw [q] at h; exact h
  | rt t e => rw [q] at h; exact h
  | bk e => rw [q] at h; exact h
  | ct e => rw [q] at h; exact h
  | bad => rw [q] at h; exact h
  | exc y e =>
    rw [q] at h
    dsimp only at h
    intro ads' G' H' σ' cls d R' s' rx
    by_cases hk : ks.contains y.k = true
    rotate_left
    · rw [if_neg hk] at h; exact h.elim
    rw [if_pos hk] at h
    refine hw cls d σ' H' y rx.1 hk (fun hy a ha => ?_) (fun hy => ?_)
    · rw [if_pos hy] at h
      by_cases ok : okS js i e = true
      rotate_left
      · rw [if_neg ok] at h; exact h.elim
      rw [if_pos ok] at h
      refine ⟨(y, refS H' G' js ads' σ' i a), ⟨rx, List.mem_cons_self, refS_pins, hk⟩, _, G', _, R'.intoS ok, ?_⟩
      cases q2 : ys y (e.set i none) with
      | nx e' =>
        rw [q2] at h
        intro ads2 G2 H2 σ2 R2 s2
        exact h _ G2 H2 _ (R'.outS ok hp hpi hjs R2) (s'.trans s2)
      | rt t e => rw [q2] at h; exact h.elim
      | bk e => rw [q2] at h; exact h.elim
      | ct e => rw [q2] at h; exact h.elim
      | bad => rw [q2] at h; exact h.elim
      | exc y e => rw [q2] at h; exact h.elim
    · rw [hy, if_neg Bool.false_ne_true] at h
      exact h ads' G' H' σ' cls d R' s' rx
theorem ts_try (hs : X.stack = X.env :: X.outer) (hf : X.env.frame = some X.env.locals) (hN : X.N.Nodup) (hi : X.N[i]? = some n) (hln : X.env.kindOf n = some .local) (hc : Names X x (.ref (c.C kx))) (tk : Takes X W)
    (hp : r.pins.map Prod.fst = pn) (hpi : pn.contains i = false) (hjs : (pn.all fun j => js.contains j) = true) (hks : ∀ k ∈ ks, PySem.W.exmOne X.K (.ref (c.C k)) (.ref (c.C kx)) = some (yes.contains k))
    (hb : ∀ (W' : WX) (pn' : List (Addr × Obj)) (xe : Value → Shared → Prop), Takes (X.tr pn' xe) W' → PassesOwn (model X.prog X.w) X.A X.env xe → PSs (X.tr pn' xe) body (TSof c r W' xs))
    (hsu : ∀ (a : Addr) (oe : Obj) (cls : Value) (d : Option Addr) (pn' : List (Addr × Obj)) (y : EX) (r' : Ref), Zc cls d oe → (∃ vs, oe.data = .fields vs) → RepX c r'.G0 y cls d r'.H0 → (i, V.ref a, []) ∈ r'.pins → r'.pins.map Prod.fst = i :: js → ks.contains y.k = true → PSs (X.suite a ((a, oe) :: pn')) (b₀ :: suite) (TSof c r' W0 (ys y))) :
    PS X (.Try body [.ExceptHandler (some (.Name x np)) (some n) (b₀ :: suite) pos'] [] [] pos) (TSof c r W (sTry i js ks yes xs ys)) := by
  refine PS.imp (ps_try_as (tb := fun W' => TSof c r W' xs) (ts := tSuite c i js ks ys) hs hf hN hi hln hc tk hb (fun a oe cls d pn' z zf => PSs.ex fun q hq => hsu a oe cls d pn' q.1 q.2 z zf hq.1 hq.2.1 hq.2.2.1 hq.2.2.2)) fun D σ H h => ?_
  refine try_core (wE := wAs X.K (.ref (c.C kx)) i (tSuite c i js ks ys) W D) hp hpi hjs (fun cls d σ' H' y hcls hk h1 h2 => ?_) h
  refine ⟨yes.contains y.k, by rw [hcls]; exact hks _ (List.contains_iff_mem.mp hk), fun b a ha => h1 b a ha, fun b => h2 b⟩
end
/-! ### what is asked of the exception within the suite -/
@[simp] def eXf (y : EX) (f : Str) : EvE := fun env => (ofO (y.fs.lookup f) env).bind fun t e => .ok (.tr t) e
@[simp] def eXi (yes : List Nat) (y : EX) : EvE := fun env => .ok (.tr (.bl (yes.contains y.k))) env
section
variable {X : Cx} {c : TC} {r' : Ref} {a : Addr} {oe : Obj} {cls : Value} {d : Option Addr} {pn' : List (Addr × Obj)} {y : EX} {i : Nat} {ks : List Nat} {e : Expr} {f : Str} {pos : Pos}
theorem pt_xf (hz : Zc cls d oe) (hf : ∃ vs, oe.data = .fields vs) (hx : RepX c r'.G0 y cls d r'.H0) (hm : (i, V.ref a, []) ∈ r'.pins) (hk : ks.contains y.k = true) (T : ∀ k ∈ ks, XfC X.K (c.C k) ∧ PySem.W.findIn X.K (.ref (c.C k)) f = some none)
    (he : PE (X.suite a ((a, oe) :: pn')) e (tVar i)) (hb : attributeBase e f X.env (eval e X.env) = eval e X.env := by rfl) :
    PE (X.suite a ((a, oe) :: pn')) (.Attribute e f pos) (TEof c r' W0 (eXf y f)) := by
  have t := T y.k (List.contains_iff_mem.mp hk)
  refine PE.imp (pe_xf t.1 t.2 hz hf he hb) fun σ H Q h => ?_
  obtain ⟨ads, G, env, R, h⟩ := h
  unfold eXf at h
  rw [Sat_bind, Sat_ofO] at h
  obtain ⟨u, hu, h⟩ := h
  refine ⟨_, (R.pin _ hm).1, rfl, hx.1, ?_⟩
  rcases hx.2 with ⟨z, _⟩ | ⟨dx, gs, hd, hg, rf⟩
  · rw [z] at hu; cases hu
  · have sG : Sub r'.G0 G := R.step.sub
    obtain ⟨v, hv, rv⟩ := rf.lookup hu
    exact ⟨dx, gs, v, hd, R.sub _ _ (sG _ _ hg), hv, h ads G H v R (Nxt.refl ads G H) (Rep.mono sG rv)⟩
end
/-- what an exception's class must say for isinstance -/
structure XiC (K : PySem.W.Frag) (D : Addr) : Prop where
  cl : (PySem.W.clsIn K D).isSome = true
  hg : PySem.W.findIn K (.ref D) "__getattribute__" = some (some (.builtin "BaseException.__getattribute__"))
  hk : PySem.W.findIn K (.ref D) "__getattr__" = some none
  hs : PySem.W.subIn K (.ref D) (.type "BaseException") = some true
  ha : PySem.W.findIn K (.ref D) "__class__" = some (some (.builtin "object.__class__"))
  hn : PySem.W.specialIn K (.builtin "object.__class__") "__get__" = some (some (.builtin "getset_descriptor.__get__"))
  ht : PySem.W.takesIn K (.builtin "object.__class__") = some true
  hm : PySem.W.mroIn K D (.type "object") = some true
def rIsX (K : PySem.W.Frag) (D a : Addr) (d : Option Addr) : List V → Hp → VK → Prop := fun xs H Q => ∃ (z : V) (cv : Value) (b : Bool), xs = [.ref a, z] ∧ (∀ u, RelV z u → u = cv) ∧ (d = none ∨ ∃ dd fs, d = some dd ∧ H dd = some (.xd fs)) ∧ PySem.W.kitOne K (.ref D) cv = some b ∧ Q (.bl b) H
theorem call_isX {X : Cx} {a D : Addr} {oe : Obj} {d : Option Addr} {pn' : List (Addr × Obj)} (T : XiC X.K D) (hz : Zc (.ref D) d oe) (hf : ∃ vs, oe.data = .fields vs) : CallR (X.suite a ((a, oe) :: pn')) (.builtin "isinstance") (rIsX X.K D a d) := by
  intro pins s σ H xs us Q I r h
  obtain ⟨z, cv, b, rfl, hcv, hd, e, q⟩ := h
  cases r with
  | cons rx rr =>
    cases rr with
    | cons rt rr =>
      cases rr
      cases rx
      have ec := hcv _ rt
      subst ec
      have hget := (I.pin (a, oe) (List.mem_append.mpr (.inl List.mem_cons_self))).1
      obtain ⟨vs, hv⟩ := hf
      have J : ∃ od, PySem.W.InstAt s.heap a oe D od := by
        obtain ⟨oc, od, oda, osl⟩ := oe
        obtain ⟨h1, h2⟩ := hz
        dsimp only at h1 h2 hv
        subst h1 h2 hv
        rcases hd with rfl | ⟨dd, fs, rfl, hH⟩
        · exact ⟨none, hget, rfl, rfl, trivial⟩
        · obtain ⟨mA, ⟨o, es, ep, ho, _⟩, _⟩ := I.hok _ _ hH
          exact ⟨some o, hget, rfl, rfl, ho⟩
      obtain ⟨od, J⟩ := J
      exact PySem.W.kia_one (PySem.W.kitx_exc T.cl T.hg T.hk T.hs T.ha T.hn T.ht T.hm) I.kIn J e (fun y => nomatch y) fun tk => ⟨.bl b, H, I.kept (t' := tk) fun _ _ y => y, rfl, q⟩
section
variable {X : Cx} {c : TC} {r' : Ref} {a : Addr} {oe : Obj} {cls : Value} {d : Option Addr} {pn' : List (Addr × Obj)} {y : EX} {i : Nat} {ks yes : List Nat} {e cl : Expr} {p pos : Pos} {v : V} {u : Value}
theorem pt_xi (hz : Zc cls d oe) (hf : ∃ vs, oe.data = .fields vs) (hx : RepX c r'.G0 y cls d r'.H0) (hm : (i, V.ref a, []) ∈ r'.pins) (hk : ks.contains y.k = true) (T : ∀ k ∈ ks, XiC X.K (c.C k)) (hu : ClsV v u) (hq : ∀ k ∈ ks, PySem.W.kitOne X.K (.ref (c.C k)) u = some (yes.contains k))
    (hg : Gl (X.suite a ((a, oe) :: pn')) "isinstance") (hmm : X.mg "isinstance" = none) (he : PE (X.suite a ((a, oe) :: pn')) e (tVar i)) (hcl : PE (X.suite a ((a, oe) :: pn')) cl (tC v))
    (h1 : starEach [e, cl] X.env = (false, eval e X.env) :: starEach [cl] X.env := by rfl) (h2 : starEach [cl] X.env = (false, eval cl X.env) :: starEach [] X.env := by rfl) (hpl : (backTo pos (starEach [cl] X.env)).any (·.1) = false := by rfl) :
    PE (X.suite a ((a, oe) :: pn')) (.Call (.Name "isinstance" p) [e, cl] [] pos) (TEof c r' W0 (eXi yes y)) := by
  have mk := List.contains_iff_mem.mp hk
  refine PE.imp (pe_callB (call_isX (T y.k mk) (by rw [← hx.1]; exact hz) hf) hg hmm boot_isinstance (pa_cons he (pa_cons hcl pa_nil h2) h1) (by decide) (by decide) h1 hpl) fun σ H Q h => ?_
  obtain ⟨ads, G, env, R, h⟩ := h
  refine ⟨_, (R.pin _ hm).1, v, u, yes.contains y.k, rfl, fun w rw => hu.eq rw, ?_, hq y.k mk, h ads G H _ R (Nxt.refl ads G H) (rep_bl (c := c) G)⟩
  rcases hx.2 with ⟨_, z⟩ | ⟨dx, gs, hd, hg', _⟩
  · exact .inl z
  · exact .inr ⟨dx, gs, hd, R.sub _ _ (R.step.sub _ _ hg')⟩
end
end TreeL
end
section
/-! TL26: what a head's look tells of exceptions; fields of listed classes; recursion's ground. -/
namespace TreeL
open PySem PySem.Spec PyProof.Rows L2
/-! ### exceptions' facts as Bools -/
inductive XB where
  | value | index
def XB.name : XB → String
  | .value => "ValueError"
  | .index => "IndexError"
def XB.newId : XB → String
  | .value => "ValueError.__new__"
  | .index => "IndexError.__new__"
def XB.init : XB → String
  | .value => "ValueError.__init__"
  | .index => "IndexError.__init__"
def XB.mro : XB → List Value
  | .value => [.type "ValueError", .type "Exception", .type "BaseException", .type "object"]
  | .index => [.type "IndexError", .type "LookupError", .type "Exception", .type "BaseException", .type "object"]
theorem XB.facts : ∀ b : XB, ExcBaseFacts b.name b.newId b.init b.mro ∧ PySem.W.KxsFacts b.name b.init ∧ PySem.StoreFacts b.name b.mro "object.__setattr__" "object"
  | .value => ⟨PySem.F.excBase_ValueError, PySem.W.kxs_ValueError, PySem.F.store_ValueError⟩
  | .index => ⟨PySem.F.excBase_IndexError, PySem.W.kxs_IndexError, PySem.F.store_IndexError⟩
/-- the addresses that belong to such a class -/
def iniAt (K : PySem.W.Frag) (C : Addr) : Addr := He.ma K C "__init__"
def ccAt (K : PySem.W.Frag) (C : Addr) : Addr := match (TreeX.fdAt K (iniAt K C)).closure with
  | (_, a) :: _ => a
  | [] => 0
def cdaAt (K : PySem.W.Frag) (C : Addr) : Addr := match (TreeX.fdAt K (iniAt K C)).code with
  | .ref a => a
  | _ => 0
def eqS (a b : Option Value) : Bool := match a, b with
  | some x, some y => x == y
  | none, none => true
  | _, _ => false
def hdIn (K : PySem.W.Frag) (C : Addr) : Bool := match PySem.W.clsIn K C with
  | some cd => cd.hasDict
  | none => false
theorem hd_at {K : PySem.W.Frag} {C : Addr} (h : hdIn K C = true) : ∃ cd, PySem.W.clsIn K C = some cd ∧ cd.hasDict = true := by
  unfold hdIn at h
  split at h
  · rename_i cd q
    exact ⟨cd, q, h⟩
  · cases h
section
open PySem.W
def xcB1 (b : XB) (f : Str) (C : Addr) (K : Frag) : Bool :=
  excInitIn K C b.mro b.newId && excOver K C b.mro && He.eqO (findIn K (.ref C) "__init__") (some (some (.ref (iniAt K C)))) && isFn K (.ref (iniAt K C)) && TreeX.isFd K (iniAt K C) &&
  decide ((TreeX.fdAt K (iniAt K C)).closure = [(("__class__" : Str), ccAt K C)]) && TreeX.isStmts (TreeX.fdAt K (iniAt K C)) && decide (TreeX.shapeOf (TreeX.bodyOf (TreeX.fdAt K (iniAt K C))) = some (("self" : Str), f, f))
def xcB2 (f fl : Str) (C : Addr) (K : Frag) : Bool :=
  (TreeX.fdAt K (iniAt K C)).code == .ref (cdaAt K C) && decide ((TreeX.fdAt K (iniAt K C)).globals = mainGlobals) && decide ((TreeX.fdAt K (iniAt K C)).builtins = builtinsNs) && (TreeX.fdAt K (iniAt K C)).defaults == .none && decide (TreeX.parsOf (TreeX.fdAt K (iniAt K C)).params = some [("self" : Str), f]) && (f == "word" || f == "at" || f == "name") &&
  codeIn K (.ref (cdaAt K C)) (TreeX.fdAt K (iniAt K C)).qualname && decide (TreeX.fileIn K (cdaAt K C) = some fl) && eqS (TreeX.cellIn K (ccAt K C)) (some (.ref C)) && hdIn K C
def xcB3 (b : XB) (f : Str) (C : Addr) (K : Frag) : Bool :=
  decide (mroIn K C (.ref C) = some true) && He.eqO (nsIn K mainGlobals "super") (some none) && He.eqO (nsIn K cStatics "thirdparty.any") (some none) && He.eqO (ks_superIn K C C "__init__") (some (some (.builtin b.init))) && decide (subIn K (.ref C) (.type b.name) = some true) && He.eqO (findIn K (.ref C) "__setattr__") (some (some (.builtin "object.__setattr__"))) && He.eqO (takerIn K C f) (some none)
def xcB4 (f : Str) (C : Addr) (K : Frag) : Bool :=
  let sc := (TreeX.fdAt K (iniAt K C)).scope
  decide (sc.names.lookup ("super" : Str) = some .globalImplicit) && decide (sc.names.lookup ("__class__" : Str) = some .free) && decide (sc.names.lookup ("self" : Str) = some .local) && decide (sc.names.lookup f = some .local) && decide (sc.kind = .function) && !sc.isCoroutine && !sc.isGenerator && sc.names.all (fun x => decide (x.2 ≠ .cell))
def xcB5 (C : Addr) (K : Frag) : Bool := keepIn K (.ref C) && decide (subIn K (.ref C) (.type "BaseException") = some true) && eqS (typeIn K (.ref C)) (some (.type "type")) && eqS (typeIn K (.ref (iniAt K C))) (some (.type "function"))
theorem eqS_ok {a b : Option Value} (h : eqS a b = true) : a = b := by
  unfold eqS at h
  split at h
  · rw [eq_of_beq h]
  · rfl
  · cases h
/-- all that raise C(e) asks -/
structure XcAll (P : Program) (K : Frag) (b : XB) (f : Str) (C : Addr) : Prop where
  x : ∃ cd, TreeX.XcF P K b.name b.init b.newId b.mro C (iniAt K C) (ccAt K C) (cdaAt K C) f cd
  k1 : keepIn K (.ref C) = true
  k2 : subIn K (.ref C) (.type "BaseException") = some true
  k3 : typeIn K (.ref C) = some (.type "type")
  k4 : typeIn K (.ref (iniAt K C)) = some (.type "function")
theorem xcAll {P : Program} {K : Frag} {b : XB} {f fl : Str} {C : Addr} (hf : P.main.file = fl) (ht : (P.main.scope.names.lookup ("super" : Str)).isSome = false) (h1 : xcB1 b f C K = true) (h2 : xcB2 f fl C K = true) (h3 : xcB3 b f C K = true) (h4 : xcB4 f C K = true) (h5 : xcB5 C K = true) : XcAll P K b f C := by
  unfold xcB1 at h1
  unfold xcB2 at h2
  unfold xcB3 at h3
  unfold xcB4 at h4
  unfold xcB5 at h5
  simp only [Bool.and_eq_true, decide_eq_true_eq, Bool.not_eq_true', Bool.or_eq_true, beq_iff_eq] at h1 h2 h3 h4 h5
  obtain ⟨⟨⟨⟨⟨⟨⟨a1, a2⟩, a3⟩, a4⟩, a5⟩, a6⟩, a7⟩, a8⟩ := h1
  obtain ⟨⟨⟨⟨⟨⟨⟨⟨⟨b1, b2⟩, b3⟩, b4⟩, b5⟩, b6⟩, b7⟩, b8⟩, b9⟩, b10⟩ := h2
  obtain ⟨⟨⟨⟨⟨⟨c1, c2⟩, c3⟩, c4⟩, c5⟩, c6⟩, c7⟩ := h3
  obtain ⟨⟨⟨⟨⟨⟨⟨d1, d2⟩, d3⟩, d4⟩, d5⟩, d6⟩, d7⟩, d8⟩ := h4
  obtain ⟨⟨⟨e1, e2⟩, e3⟩, e4⟩ := h5
  obtain ⟨cd, q1, q2⟩ := hd_at b10
  obtain ⟨F1, F2, F3⟩ := b.facts
  exact ⟨⟨cd, F1, F2, F3, a1, a2, He.eqO_ok a3, a4, a5, a6, a7, a8, b1, b2, b3, b4, b5, by rcases b6 with (z | z) | z <;> simp [z], b7, by rw [hf]; exact b8, ht, eqS_ok b9, q1, q2, c1, He.eqO_ok c2, He.eqO_ok c3, He.eqO_ok c4, c5, He.eqO_ok c6, He.eqO_ok c7, d1, d2, d3, d4, d5, d6, d7, d8⟩, e1, e2, eqS_ok e3, eqS_ok e4⟩
end
structure X0All (K : PySem.W.Frag) (b : XB) (C : Addr) : Prop where
  q : PySem.W.excIn K C b.mro b.newId = true
  k1 : PySem.W.keepIn K (.ref C) = true
  k2 : PySem.W.subIn K (.ref C) (.type "BaseException") = some true
  k3 : PySem.W.typeIn K (.ref C) = some (.type "type")
def x0B (b : XB) (C : Addr) (K : PySem.W.Frag) : Bool := PySem.W.excIn K C b.mro b.newId && PySem.W.keepIn K (.ref C) && decide (PySem.W.subIn K (.ref C) (.type "BaseException") = some true) && eqS (PySem.W.typeIn K (.ref C)) (some (.type "type"))
theorem x0All {K : PySem.W.Frag} {b : XB} {C : Addr} (h : x0B b C K = true) : X0All K b C := by
  unfold x0B at h
  simp only [Bool.and_eq_true, decide_eq_true_eq] at h
  exact ⟨h.1.1.1, h.1.1.2, h.1.2, eqS_ok h.2⟩
/-! ### except: which classes it takes -/
def exmB (cs : List Str) (ks yes : List Nat) (kx : Nat) (K : PySem.W.Frag) : Bool := ks.all fun k => decide (PySem.W.exmOne K (.ref ((tcN K cs).C k)) (.ref ((tcN K cs).C kx)) = some (yes.contains k))
theorem exmB_ok {cs : List Str} {ks yes : List Nat} {kx : Nat} {K : PySem.W.Frag} (h : exmB cs ks yes kx K = true) : ∀ k ∈ ks, PySem.W.exmOne K (.ref ((tcN K cs).C k)) (.ref ((tcN K cs).C kx)) = some (yes.contains k) := fun k hk => of_decide_eq_true (List.all_eq_true.mp h k hk)
def xfaB (cs : List Str) (ks : List Nat) (f : Str) (K : PySem.W.Frag) : Bool := ks.all fun k => xfB K ((tcN K cs).C k) && He.eqO (PySem.W.findIn K (.ref ((tcN K cs).C k)) f) (some none)
theorem xfaB_ok {cs : List Str} {ks : List Nat} {f : Str} {K : PySem.W.Frag} (h : xfaB cs ks f K = true) : ∀ k ∈ ks, XfC K ((tcN K cs).C k) ∧ PySem.W.findIn K (.ref ((tcN K cs).C k)) f = some none := fun k hk => by
  have z := List.all_eq_true.mp h k hk
  simp only [Bool.and_eq_true] at z
  exact ⟨xfB_ok z.1, He.eqO_ok z.2⟩
def xiB1 (C : Addr) (K : PySem.W.Frag) : Bool := (PySem.W.clsIn K C).isSome && He.eqO (PySem.W.findIn K (.ref C) "__getattribute__") (some (some (.builtin "BaseException.__getattribute__"))) && He.eqO (PySem.W.findIn K (.ref C) "__getattr__") (some none) && decide (PySem.W.subIn K (.ref C) (.type "BaseException") = some true) &&
  He.eqO (PySem.W.findIn K (.ref C) "__class__") (some (some (.builtin "object.__class__"))) && He.eqO (PySem.W.specialIn K (.builtin "object.__class__") "__get__") (some (some (.builtin "getset_descriptor.__get__"))) && decide (PySem.W.takesIn K (.builtin "object.__class__") = some true) && decide (PySem.W.mroIn K C (.type "object") = some true)
def xiB (cs : List Str) (ks : List Nat) (K : PySem.W.Frag) : Bool := ks.all fun k => xiB1 ((tcN K cs).C k) K
theorem xiB_ok {cs : List Str} {ks : List Nat} {K : PySem.W.Frag} (h : xiB cs ks K = true) : ∀ k ∈ ks, XiC K ((tcN K cs).C k) := fun k hk => by
  have z := List.all_eq_true.mp h k hk
  unfold xiB1 at z
  simp only [Bool.and_eq_true, decide_eq_true_eq] at z
  obtain ⟨⟨⟨⟨⟨⟨⟨a1, a2⟩, a3⟩, a4⟩, a5⟩, a6⟩, a7⟩, a8⟩ := z
  exact ⟨a1, He.eqO_ok a2, He.eqO_ok a3, a4, He.eqO_ok a5, He.eqO_ok a6, a7, a8⟩
def kitB (cs : List Str) (ks yes : List Nat) (t : Tgt) (K : PySem.W.Frag) : Bool := ks.all fun k => decide (PySem.W.kitOne K (.ref ((tcN K cs).C k)) (t.val (tcN K cs)) = some (yes.contains k))
theorem kitB_ok {cs : List Str} {ks yes : List Nat} {t : Tgt} {K : PySem.W.Frag} (h : kitB cs ks yes t K = true) : ∀ k ∈ ks, PySem.W.kitOne K (.ref ((tcN K cs).C k)) (t.val (tcN K cs)) = some (yes.contains k) := fun k hk => of_decide_eq_true (List.all_eq_true.mp h k hk)
/-! ### e.f where the classes are listed: ls those that have f, ks those that there are -/
@[simp] def eFl (ls ks : List Nat) (f : Str) (ea : EvE) : EvE := fun env => (ea env).bind fun x e => match look e x with
  | some (.ins k fs) => if (ls.contains k && ks.contains k) = true then (ofO (fs.lookup f) e).bind fun t e => .ok (.tr t) e else .bad
  | _ => .bad
section
variable {X : Cx} {c : TC} {r : Ref} {W : WX} {e : Expr} {ea : EvE} {f : Str} {ls ks : List Nat} {pos : Pos}
theorem pt_fl (hf : ∀ k ∈ ls, ks.contains k = true → Cls X.K (c.C k) ∧ NoAttr X.K (c.C k) f) (he : PE X e (TEof c r W ea)) (hb : attributeBase e f X.env (eval e X.env) = eval e X.env := by rfl) : PE X (.Attribute e f pos) (TEof c r W (eFl ls ks f ea)) := by
  refine PE.imp (pe_fld he hb) fun σ H Q h => ?_
  obtain ⟨ads, G, env, R, h⟩ := h
  refine ⟨ads, G, env, R, Sat_mono (Sat_bind.mp h) (fun x e1 h1 ads1 G1 H1 v1 R1 s1 p1 => ?_) fun _ _ z => z⟩
  cases q : look e1 x with
  | none => simp only [q] at h1; exact h1.elim
  | some t =>
    have w := look_rep R1 p1 q
    cases t with
    | ins k fs =>
      simp only [q] at h1
      by_cases m : (ls.contains k && ks.contains k) = true
      · rw [if_pos m] at h1
        obtain ⟨t, ht, h2⟩ := Sat_ofO.mp (Sat_bind.mp h1)
        obtain ⟨a, dx, gs, rfl, hH, rf⟩ := w
        obtain ⟨u, hu, ru⟩ := rf.lookup ht
        rw [Bool.and_eq_true] at m
        obtain ⟨c1, c2⟩ := hf k (List.contains_iff_mem.mp m.1) m.2
        exact ⟨a, c.C k, dx, gs, u, rfl, hH, c1, c2, hu, h2 ads1 G1 H1 u R1 s1 ru⟩
      · rw [if_neg m] at h1; exact h1.elim
    | _ => simp only [q] at h1; exact h1.elim
end
/-- a def that promises nothing -/
theorem fnG_bad {P : Program} {w : World} {c : TC} {mg : Str → Option Value} {base : Heap} {k : Nat} {f : Addr} {fd : FuncData} {ps : List Str} : FnG P w c.K mg base k f fd ps (spF c ps.length fun _ => .bad) :=
  ⟨spF_len, fun A l st H ar us vs Q E _ _ _ _ h => by
    obtain ⟨_, G, args, adl, _, _, _, _, z⟩ := h
    exact z.elim⟩
end TreeL
namespace TreeL
open PySem PySem.Spec PyProof.Rows L2
theorem pss_bad {X : Cx} {c : TC} {r : Ref} {W : WX} {st : List Stmt} : PSs X st (TSof c r W fun _ => .bad) := ⟨fun pins s σ H D I ⟨_, _, _, _, h⟩ => h.elim⟩
theorem flAll {p q : Nat → Prop} {ls : List Nat} (h : AllP (fun k => q k → p k) ls) : ∀ k ∈ ls, q k → p k := AllP.all h
end TreeL
end
section
/-! TL27: further expressions: xs[::0 - 1], {}.get(k), texts' methods, f-strings, match with a star. -/
namespace TreeL
open PySem PySem.Spec PyProof.Rows L2
section
variable {X : Cx} {c : TC} {r : Ref} {W : WX} {e st : Expr} {ea : EvE} {pos p3 : Pos}
/-- a step that is -1 -/
def MinusOne (X : Cx) (st : Expr) : Prop := PO X (some st) (fun _ H Q => Q (some (-1)) H)
theorem minus_sub {a b p : Pos} {i j : Nat} : MinusOne X (.BinOp (.Constant (.int 0) i a) .Sub (.Constant (.int 1) j b) p) :=
  ⟨fun pins s σ H Q I h => (po_some (pe_op op_sub pe_int pe_int)).run pins s σ H Q I ⟨0, 1, rfl, rfl, -1, rfl, h⟩⟩
theorem pe_rev1 {te : TE} (he : PE X e te) (hst : MinusOne X st) : PE X (.Subscript e (.Slice none none (some st) p3) pos) (tRevL X.K te) := by
  refine ⟨fun pins s σ H Q I h => Subscript_ (thn (he.run pins s σ H _ I h) fun v s1 hv => ?_)⟩
  obtain ⟨x, H1, I1, r1, a, xs, rfl, hx, q⟩ := hv
  cases r1
  refine wpAny_Slice (thn (po_none.run pins s1 σ H1 (fun o H2 => o = none ∧ H2 = H1) I1 ⟨rfl, rfl⟩) fun vl s2 hl => ?_)
  obtain ⟨l, H2, I2, pl, rfl, rfl⟩ := hl
  refine thn (po_none.run pins s2 σ H2 (fun o H3 => o = none ∧ H3 = H2) I2 ⟨rfl, rfl⟩) fun vu s3 hu => ?_
  obtain ⟨u, H3, I3, pu, rfl, rfl⟩ := hu
  refine thn (hst.run pins s3 σ H3 (fun o H4 => o = some (-1) ∧ H4 = H3) I3 ⟨rfl, rfl⟩) fun vs s4 hs => ?_
  obtain ⟨o, H4, I4, ps, rfl, rfl⟩ := hs
  have I5 : Inv X pins σ H4 { s4 with heap := s4.heap.push { cls := .type "slice", data := .fields #[vl, vu, vs] } } := I4.kept (t' := s4.toks) fun _ _ q => Heap.get?_push_of_some _ q
  obtain ⟨its, rr, ht, hz⟩ := I5.list hx
  have hlen := rr.length
  show wpAny (model X.prog X.w) X.A (subscriptTail e (.Slice none none (some st) p3) (.ref a) (.ref s4.heap.objs.size)) (EP X pins σ Q) X.xe _
  refine tail_any (ops := [.ref a, .ref s4.heap.objs.size]) ht.isList.typeIs (PySem.slot_list_getitem.lookup) ?_ (by with_unfolding_all rfl)
  refine wpAny_getItem_list_slice ht.isList (Heap.IsSliceOf.new _ vl vu vs) pl pu ps (by decide) ?_ (by rw [List.size_toArray]; omega)
  rw [PySem.W.krv_pick]
  exact ⟨.ref _, _, I5.laid (t' := s4.toks) (o := .lst xs.reverse) (fun _ _ q => Heap.get?_push_of_some _ q) (Nat.le_refl _) ⟨by rw [List.length_reverse]; exact hz, _, 0, rr.reverse, Heap.get?_push_size _ rfl⟩, rfl, q _ (I5.hok.fresh (Nat.le_refl _))⟩
theorem tr_rev1 (he : PE X e (TEof c r W ea)) (hst : MinusOne X st) : PE X (.Subscript e (.Slice none none (some st) p3) pos) (TRof c r W (rRev ea)) := by
  refine PE.imp (pe_rev1 he hst) fun σ H Q hh => ?_
  obtain ⟨ads, G, env, R, h⟩ := hh
  refine ⟨ads, G, env, R, Sat_mono (Sat_bind.mp h) (fun x e1 h1 ads1 G1 H1 v1 R1 s1 p1 => ?_) fun _ _ z => z⟩
  cases q : look e1 x with
  | none => simp only [q] at h1; exact h1.elim
  | some t =>
    have w := look_rep R1 p1 q
    cases t with
    | lst ts =>
      simp only [q] at h1
      obtain ⟨a, vs, rfl, hx, rr⟩ := w
      exact ⟨a, vs, rfl, .inl (.inl hx), QOut.list (QOut.res R1 s1 h1) rr.reverse⟩
    | _ => simp only [q] at h1; exact h1.elim
/-- {}.get(a written text): None -/
theorem pt_dget0 {x : Str} {j : Nat} {p p1 cpos apos : Pos} (hu : X.A.units + 1 < cLine) (m : M1 X (.Dict [] [] p) "get" apos (.Constant (.str x) j p1) cpos) :
    PE X (.Call (.Attribute (.Dict [] [] p) "get" apos) [.Constant (.str x) j p1] [] cpos) (TEof c r W (eCon .non)) := by
  refine PE.imp (pe_dget1 hu pe_dnewK pe_str m) fun σ H Q h => ?_
  obtain ⟨ads, G, env, R, h⟩ := h
  intro p hp
  refine ⟨p, rfl, .inl ⟨[], .inl upd_same⟩, _, DGet.k (kvs := []) (k := Sum.inr x) upd_same, ?_⟩
  exact h ads G _ _ (R.lay hp) (Nxt.of (Step.allocO R.sub hp)) (rep_non (c := c) G)
end
/-! ### texts -/
theorem strG_cut {x : Str} (h : StrG x) (i j : Nat) : StrG (Builtin.Str.strSub x i j) := by
  have e : Builtin.Str.strSub x i j = ⟨(x.cps.toList.extract i j).toArray⟩ := by
    unfold Builtin.Str.strSub
    congr 1
    apply Array.ext'
    simp [List.extract_eq_take_drop]
  rw [e]
  refine strG_sub h ?_
  rw [List.extract_eq_take_drop]
  exact (List.take_sublist _ _).trans (List.drop_sublist _ _)
theorem removeprefix_strG {x y : Str} (h : StrG x) : StrG (Txt.removeprefix x y) := by
  unfold Txt.removeprefix Txt.affix
  split
  · split
    · exact h
    · exact strG_cut h _ _
  · exact h
def removeprefixM : PV → List PV → Option Arg
  | .str a, [.str b] => if a.length ≤ LIM then some (.t (.str (Txt.removeprefix a b))) else none
  | _, _ => none
def countM : PV → List PV → Option Arg
  | .str a, [.str b] => some (.t (.int (Txt.count a b)))
  | _, _ => none
def partitionM : PV → List PV → Option Arg
  | .str a, [.str b] => if (b.length == 0) = false ∧ a.length ≤ LIM then some (.t (.tup [.str (Txt.partition a b).1, .str (Txt.partition a b).2.1, .str (Txt.partition a b).2.2])) else none
  | _, _ => none
section
variable {X : Cx} {c : TC}
theorem mt_removeprefixM : MtQ X c "str.removeprefix" removeprefixM := fun G H t0 ts t v0 vs Q e s w p q => by
  unfold removeprefixM at e
  split at e
  · obtain ⟨rfl, g⟩ := w
    obtain ⟨v, rfl, rfl, g2⟩ := pair1 p
    obtain ⟨hl, rfl⟩ := ite_some e
    exact ⟨_, mt_removeprefix, _, _, rfl, rfl, lim_line hl, q.t.flat s (rep_str (removeprefix_strG g))⟩
  · cases e
theorem mt_countM : MtQ X c "str.count" countM := fun G H t0 ts t v0 vs Q e s w p q => by
  unfold countM at e
  split at e
  · obtain ⟨rfl, g⟩ := w
    obtain ⟨v, rfl, rfl, g2⟩ := pair1 p
    cases e
    exact ⟨_, mt_count, _, _, rfl, rfl, q.t.flat s rep_int⟩
  · cases e
theorem partition_strG {a b : Str} (h : StrG a) (h2 : StrG b) : StrG (Txt.partition a b).1 ∧ StrG (Txt.partition a b).2.1 ∧ StrG (Txt.partition a b).2.2 := by
  unfold Txt.partition
  have e0 : StrG Str.empty := strG_small (by intro n hn; cases hn) (Nat.zero_le _)
  split
  · exact ⟨strG_cut h _ _, h2, strG_cut h _ _⟩
  · exact ⟨h, e0, e0⟩
theorem mt_partitionM : MtQ X c "str.partition" partitionM := fun G H t0 ts t v0 vs Q e s w p q => by
  unfold partitionM at e
  split at e
  · obtain ⟨rfl, g⟩ := w
    obtain ⟨v, rfl, rfl, g2⟩ := pair1 p
    obtain ⟨hl, rfl⟩ := ite_some e
    obtain ⟨k1, k2, k3⟩ := partition_strG g g2
    exact ⟨_, mt_partition, _, _, rfl, rfl, hl.1, lim_line hl.2, q.t.tup s ⟨_, _, rfl, ⟨rfl, k1⟩, _, _, rfl, ⟨rfl, k2⟩, _, _, rfl, ⟨rfl, k3⟩, rfl⟩⟩
  · cases e
end
/-! ### f-strings -/
@[simp] def eFmt (ea : EvE) : EvE := fun env => (ea env).bind fun x e => match look e x with
  | some (.str y) => .ok (.tr (.str y)) e
  | some (.int i) => if 0 ≤ i ∧ i < 10 ^ 100 then .ok (.tr (.str (Str.ofString (toString i)))) e else .bad
  | _ => .bad
def jF : List EvE → Str → En → RE Str
  | [], acc, env => .ok acc env
  | ea :: r, acc, env => (ea env).bind fun x e => match look e x with
    | some (.str y) => if acc.length + y.length ≤ LIM then jF r (acc ++ y) e else .bad
    | _ => .bad
@[simp] def eJs (evs : List EvE) : EvE := fun env => (jF evs Str.empty env).bind fun out e => .ok (.tr (.str out)) e
inductive PJt (X : Cx) (c : TC) (r : Ref) (W : WX) : List Expr → List EvE → Prop where
  | nil : PJt X c r W [] []
  | cons {e : Expr} {ea : EvE} {es : List Expr} {evs : List EvE} (h : PE X e (TEof c r W ea)) (rest : PJt X c r W es evs) : PJt X c r W (e :: es) (ea :: evs)
theorem add_length (a b : Str) : (a ++ b).length = a.length + b.length := by
  rw [TL.len_tl, TL.tl_append, List.length_append, ← TL.len_tl, ← TL.len_tl]
section
variable {X : Cx} {c : TC} {r : Ref} {W : WX}
theorem PJt.pj {es : List Expr} {evs : List EvE} (h : PJt X c r W es evs) : PJ X es (evs.map (TEof c r W)) := by
  induction h with
  | nil => exact .nil
  | cons h _ ih => exact .cons h ih
theorem pt_fmt {e : Expr} {ea : EvE} {pos : Pos} (he : PE X e (TEof c r W ea)) : PE X (.FormattedValue e (-1) none pos) (TEof c r W (eFmt ea)) := by
  refine PE.imp (pe_fmt he) fun σ H Q hh => ?_
  obtain ⟨ads, G, env, R, h⟩ := hh
  refine ⟨ads, G, env, R, Sat_mono (Sat_bind.mp h) (fun x e1 h1 ads1 G1 H1 v1 R1 s1 p1 => ?_) fun _ _ z => z⟩
  cases q : look e1 x with
  | none => simp only [q] at h1; exact h1.elim
  | some t =>
    have w := look_rep R1 p1 q
    cases t with
    | str y =>
      simp only [q] at h1
      obtain ⟨rfl, g⟩ := w
      exact .inl ⟨y, rfl, g.1, h1 ads1 G1 H1 _ R1 s1 (rep_str (c := c) g G1)⟩
    | int i =>
      simp only [q] at h1
      by_cases hi : 0 ≤ i ∧ i < 10 ^ 100
      · rw [if_pos hi] at h1
        have hw : v1 = .int i := w
        subst hw
        obtain ⟨n, rfl⟩ : ∃ n : Nat, i = n := ⟨i.toNat, by omega⟩
        have hn : n < 10 ^ 100 := by
          have := hi.2
          exact_mod_cast this
        refine .inr ⟨_, rfl, ?_, h1 ads1 G1 H1 _ R1 s1 (rep_str (c := c) (num_strG hn) G1)⟩
        refine Nat.lt_of_le_of_lt ?_ (show 333 < 1920 by decide)
        rw [Int.natAbs_natCast]
        by_cases z : n = 0
        · subst z; decide
        · have : n.log2 < 333 := (Nat.log2_lt z).mpr (Nat.lt_trans hn (by decide))
          omega
      · rw [if_neg hi] at h1; exact h1.elim
    | _ => simp only [q] at h1; exact h1.elim
theorem js_imp {σ : L2.St} : ∀ {evs : List EvE} {acc : Str} {ads0 ads : Nat → List Addr} {G0 H0 G H : Hp} {env : En} {Q : Str → Hp → Prop}, StrG acc → RS c r ads G H σ env → Nxt ads0 G0 H0 ads G H →
    (jF evs acc env).Sat (fun out env' => ∀ ads' G' H', RS c r ads' G' H' σ env' → Nxt ads0 G0 H0 ads' G' H' → StrG out → Q out H') (XC c r W G0 σ) → tJs (evs.map (TEof c r W)) acc σ H Q
  | [], acc, _, _, _, _, _, _, _, _, g, R, s, h => h _ _ _ R s g
  | ea :: evs, acc, ads0, ads, G0, H0, G, H, env, Q, g, R, s, h => by
    show TEof c r W ea σ H _
    refine ⟨ads, G, env, R, ?_⟩
    unfold jF at h
    refine Sat_mono (Sat_bind.mp h) (fun x e1 h1 ads1 G1 H1 v1 R1 s1 p1 => ?_) fun x e z => XC.weak z s.sub
    cases q : look e1 x with
    | none => simp only [q] at h1; exact h1.elim
    | some t =>
      have w := look_rep R1 p1 q
      cases t with
      | str y =>
        simp only [q] at h1
        obtain ⟨rfl, gy⟩ := w
        by_cases hl : acc.length + y.length ≤ LIM
        · rw [if_pos hl] at h1
          exact ⟨y, rfl, by rw [add_length]; exact lim_line hl, js_imp (g.add gy hl) R1 (s.trans s1) h1⟩
        · rw [if_neg hl] at h1; exact h1.elim
      | _ => simp only [q] at h1; exact h1.elim
theorem pt_js {v1 v2 : Expr} {rest : List Expr} {evs : List EvE} {pos : Pos} (h : PJt X c r W (v1 :: v2 :: rest) evs) : PE X (.JoinedStr (v1 :: v2 :: rest) pos) (TEof c r W (eJs evs)) := by
  refine PE.imp (pe_joined h.pj) fun σ H Q hh => ?_
  obtain ⟨ads, G, env, R, z⟩ := hh
  refine js_imp (strG_small (by intro n hn; cases hn) (Nat.zero_le _)) R (Nxt.refl ads G H) (Sat_mono (Sat_bind.mp z) (fun out e1 h1 ads1 G1 H1 R1 s1 g => ?_) fun _ _ y => y)
  exact h1 ads1 G1 H1 _ R1 s1 (rep_str (c := c) g G1)
end
/-! ### match: names, then a starred one -/
section
variable {M : Model} {A : Around} {E : Value → Shared → Prop} {s : Shared} {env : Env}
theorem caps_idx {ps : List Pattern} {xs : List Str} {y : Str} {p : Pos} (h : CapP ps xs) : (ps ++ [Pattern.MatchStar (some y) p]).findIdx? (fun q => q.isStar) = some ps.length := by
  induction h with
  | nil => rfl
  | cons h ih =>
    rw [List.cons_append, List.findIdx?_cons]
    rw [if_neg (show ¬ (Pattern.isStar (.MatchAs none (some _) _) = true) from Bool.false_ne_true), ih]
    rfl
theorem star_pattern {ps : List Pattern} {xs : List Str} {y : Str} {p pos : Pos} {v : Value} {Q : Option (List (Str × Value)) → Shared → Prop} (h : CapP ps xs) (h0 : ps ≠ [])
    (q : wpAny M A (collectionFlag true v) (fun b s₁ => b = true ∧ wpAny M A (pyLen v) (fun m s₂ => if m < (ps.length : Int) then Q none s₂ else
      wpAny M A (unpackItems v (ps.length + 1) (some ps.length)) (fun vs s₃ => wpAny M A (matchEach (ps ++ [.MatchStar (some y) p]) env vs) Q E s₃) E s₂) E s₁) E s) :
    wpAny M A (matchPattern (.MatchSequence (ps ++ [.MatchStar (some y) p]) pos) env v) Q E s := by
  rw [arm_matchPattern_MatchSequence]
  refine wpAny_bind (wpAny_standAt (wpAny_bind (wpAny_mono q (fun b s₁ h₁ => ?_) fun _ _ z => z)))
  obtain ⟨rfl, h₁⟩ := h₁
  have e1 := caps_idx (y := y) (p := p) h
  have e2 : (ps ++ [Pattern.MatchStar (some y) p]).length = ps.length + 1 := by simp
  have e3 : ((ps ++ [Pattern.MatchStar (some y) p]).all fun p => p.isWildcard || (p.isStar && p.names.isEmpty)) = false := by
    rw [List.all_append]
    simp [Pattern.isWildcard, Pattern.isStar, Pattern.names]
  have e4 : (ps ++ [Pattern.MatchStar (some y) p])[ps.length]? = some (Pattern.MatchStar (some y) p) := by simp
  have hlen : 0 < ps.length := List.length_pos_iff.mpr h0
  have e5 : (ps.length + 1 > 1) = True := eq_true (by omega)
  simp only [e1, e2, e3, e4, e5, Bool.not_true, Bool.false_eq_true, if_false, if_true, Option.elim, Pattern.names]
  refine wpAny_bind (wpAny_mono h₁ (fun m s₂ h₂ => ?_) fun _ _ z => z)
  have e6 : ((ps.length + 1 : Nat) : Int) - 1 = (ps.length : Int) := by omega
  by_cases hm : m < (ps.length : Int)
  · rw [if_pos hm] at h₂
    rw [if_pos (by rw [e6]; exact hm)]
    exact wpAny_pure h₂
  · rw [if_neg hm] at h₂
    rw [if_neg (by rw [e6]; exact hm)]
    rw [if_neg (by simp)]
    exact wpAny_bind h₂
end
section
variable {X : Cx} {c : TC} {r : Ref} {W : WX} {cs : EvC} {rest : List MatchCase} {p p1 : Pos} {is : List Nat} {j : Nat} {xs : List Str} {y : Str} {ps : List Pattern} {body : List Stmt} {gd : EvT} {ys : EvS}
theorem tm_star {guard : Option Expr} (hc : X.calm = true) (hN : X.N.Nodup) (hcap : CapP ps xs) (h0 : ps ≠ []) (hl : is.length = xs.length) (hq : ∀ q ∈ (is ++ [j]).zip (xs ++ [y]), X.N[q.1]? = some q.2 ∧ X.env.scope.names.lookup q.2 = some .local ∧ (r.pins.map Prod.fst).contains q.1 = false)
    (hgd : GdOk X c r W guard gd) (hb : PSs X body (TSof c r W ys)) (hr : PMs X c r W rest cs) : PMs X c r W (⟨.MatchSequence (ps ++ [Pattern.MatchStar (some y) p1]) p, guard, body⟩ :: rest) (cStar is.length (is ++ [j]) gd ys cs) := ⟨fun first pins st σ H D v u t ads G env I rv R rp h => by
  refine wpAny_matchCases_cons ?_
  have hpl := hcap.length
  cases t with
  | lst ts =>
    have rp0 := rp
    simp only [Rep] at rp
    obtain ⟨a, vs, rfl, hx, rr⟩ := rp
    cases rv
    obtain ⟨its, rvs, hli, hz⟩ := I.list (.inl (.inl (R.sub _ _ hx)))
    have hsz : its.toArray.size = ts.length := by rw [List.size_toArray, ← rvs.length, rr.length]
    have hfit : (its.toArray.size : Int) < 2 ^ 63 := by have := line63; rw [List.size_toArray, ← rvs.length]; omega
    have I1 : Inv X pins σ H { st with toks := st.toks + 1 + 1 } := I.tok _
    have h' : (if is.length ≤ ts.length then (gd (setsE (is ++ [j]) (ts.take is.length ++ [.lst (ts.drop is.length)]) env)).so fun b e => if b then ys e else cs (.lst ts) e else cs (.lst ts) env).Sat (Kof c r W G D) := h
    have hk : ps.length = is.length := by rw [hpl, hl]
    refine star_pattern hcap h0 (wpAny_collectionFlag hli.isList.typeIs flag_seq_list ⟨rfl, pyLen_list hli.isList hfit ?_⟩)
    by_cases l : is.length ≤ ts.length
    · rw [if_pos l] at h'
      rw [if_neg (by rw [hsz, hk]; omega), hk]
      refine unpack_str (I.ok.hd hc) (by exact hli.isList) (by rw [hsz]; exact l) (by rw [List.size_toArray, ← rvs.length]; exact hz) fun s' kp e1 e2 e3 => ?_
      have I2 : Inv X pins σ H s' := by
        obtain ⟨hp, g, d, tk, os⟩ := s'
        dsimp only at e1 e2 e3
        subst e1 e2 e3
        exact I1.kept (t' := tk) kp
      have hn : H s'.heap.objs.size = none := I2.hok.fresh (Nat.le_refl _)
      have I3 : Inv X pins σ (upd H s'.heap.objs.size (.lst (vs.drop is.length))) { s' with heap := s'.heap.push { cls := .type "list", data := .seq (its.drop is.length).toArray } } :=
        I2.laid (t' := s'.toks) (a := s'.heap.objs.size) (o := .lst (vs.drop is.length)) (fun _ _ q => Heap.get?_push_of_some _ q) (Nat.le_refl _) ⟨by rw [List.length_drop]; exact Nat.le_trans (Nat.sub_le _ _) hz, _, 0, rvs.drop _, Heap.get?_push_size _ rfl⟩
      have st3 : Step [] H G (upd H s'.heap.objs.size (.lst (vs.drop is.length))) (upd G s'.heap.objs.size (.lst (vs.drop is.length))) := Step.alloc R.sub hn
      have R3 := R.next st3
      have rr3 : RepL c (upd G s'.heap.objs.size (.lst (vs.drop is.length))) (ts.take is.length ++ [.lst (ts.drop is.length)]) (vs.take is.length ++ [.ref s'.heap.objs.size]) :=
        ((rr.take _).mono st3.sub).append (RepL.one ⟨_, _, rfl, upd_same, (rr.drop _).mono st3.sub⟩)
      have rv3 : Vals (vs.take is.length ++ [.ref s'.heap.objs.size]) (its.take is.length ++ [.ref s'.heap.objs.size]) := (rvs.take _).append (.cons rfl .nil)
      have lt : (its.take is.length).length = xs.length := by rw [List.length_take, ← rvs.length, rr.length, hl]; omega
      refine each_star hcap lt ?_
      have lz : (its.take is.length ++ [Value.ref s'.heap.objs.size]).length = (xs ++ [y]).length := by simp [lt]
      have zz : xs.zip (its.take is.length) ++ [(y, Value.ref s'.heap.objs.size)] = (xs ++ [y]).zip (its.take is.length ++ [Value.ref s'.heap.objs.size]) := by
        rw [List.zip_append lt.symm]; rfl
      rw [show (xs.zip (List.take is.length its) ++ [(y, Value.ref s'.heap.objs.size)]) = _ from zz]
      refine bind_caps hN hq (by simp [hl]) lz I3 rv3 R3 rr3 fun s2 σ2 ads2 I4 R4 => ?_
      exact case_go hgd hb hr I4 (show RelV (.ref a) (.ref a) from rfl) R4 (Rep.mono st3.sub rp0) (Kof.weak st3.sub h')
    · rw [if_neg l] at h'
      rw [if_pos (by rw [hsz, hk]; omega)]
      exact hr.run false pins _ σ H D _ _ (.lst ts) ads G env I1 (show RelV (.ref a) (.ref a) from rfl) R rp0 h'
  | _ => exact h.elim⟩
end
end TreeL
end
section
/-! TL28: list.index. -/
namespace TreeL
open PySem PySem.Spec PyProof.Rows L2
def indexM : PV → List PV → Option Arg
  | .lst xs, [k] => if dat 63 k && datL 63 xs then (xs.findIdx? fun z => peq z k).map fun j => .t (.int (j : Nat)) else none
  | _, _ => none
section
variable {X : Cx} {c : TC}
theorem mt_indexM (hK : X.K = c.K) (hu : X.A.units + 65 < cLine) : MtQ X c "list.index" indexM := fun G H t0 ts t v0 vs Q e s w p q => by
  unfold indexM at e
  split at e
  · rename_i xs k
    obtain ⟨v, rfl, w2⟩ := pair1 p
    obtain ⟨hd, e⟩ : (dat 63 k && datL 63 xs) = true ∧ (xs.findIdx? fun z => peq z k).map (fun j => Arg.t (.int (j : Nat))) = some t := by split at e; exact ⟨by assumption, e⟩; cases e
    rw [Bool.and_eq_true] at hd
    obtain ⟨j, hj, rfl⟩ := map_some e
    obtain ⟨b1, b2⟩ := (w.rep s).shape (t := .lst xs) (by rw [dat]; exact hd.2)
    obtain ⟨a1, a2⟩ := (w2.rep s).shape (dat_mono (by omega) hd.1)
    obtain ⟨p0, vs0, rfl, _⟩ := w
    rw [toD] at b1 b2
    obtain ⟨lt, hz, hno⟩ := List.findIdx?_eq_some_iff_getElem.mp hj
    have dz : ∀ (m : Nat) (hm : m < xs.length), dat 63 xs[m] = true := fun m hm => by
      have := hd.2
      rw [datL_all, List.all_eq_true] at this
      exact this _ (List.getElem_mem hm)
    refine ⟨_, mt_indexD hu, p0, v, toD k, toDs xs, j, toD xs[j], rfl, rfl, by rw [hK]; exact b1, by rw [hK]; exact a1, b2, a2, ?_, ?_, fun m z' hm hz' => ?_, q.t.flat s rep_int⟩
    · rw [toDs_map, List.getElem?_map, List.getElem?_eq_getElem lt]; rfl
    · rw [peq_eqv (dz j lt) hd.1]; exact hz
    · rw [toDs_map, List.getElem?_map] at hz'
      have hmx : m < xs.length := by omega
      rw [List.getElem?_eq_getElem hmx] at hz'
      cases hz'
      rw [peq_eqv (dz m hmx) hd.1]
      simpa using hno m hm
  · cases e
end
end TreeL
end
section
/-! TL29: dict comprehensions, len of a dict, except without a name. -/
namespace TreeL
open PySem PySem.Spec PyProof.Rows L2
def keyOf : PV → Option Key
  | .int i => some (.inl i)
  | .str x => some (.inr x)
  | _ => none
def putP (kvs : List (PV × PV)) (k v : PV) : List (PV × PV) :=
  if (kvs.any fun kv => PV.beq kv.1 k) = true then kvs.map (fun kv => if PV.beq kv.1 k = true then (kv.1, v) else kv) else kvs ++ [(k, v)]
def compD (g : Tg) (et : EvT) (ek ea : EvE) (vs : List Nat) (al : En → Bool) : List PV → List (PV × PV) → En → RE (List (PV × PV))
  | [], acc, env => if al env then .ok acc env else .bad
  | t :: ts, acc, env => if al env then (match g t env with
    | none => .bad
    | some e1 => match et e1 with
      | .ok b e2 => if b then (match ek e2 with
          | .ok (.tr k) e3 => (match keyOf k with
            | some _ => (match ea e3 with
              | .ok (.tr x) e4 => if acc.length < LIM then compD g et ek ea vs al ts (putP acc k x) (wipeE e4 vs) else .bad
              | _ => .bad)
            | none => .bad)
          | _ => .bad) else compD g et ek ea vs al ts acc (wipeE e2 vs)
      | _ => .bad) else .bad
@[simp] def fDcmp (ev : EvI) (g : Tg) (et : EvT) (ek ea : EvE) (vs : List Nat) : EvF := fun env => (ev env).bind fun (w : Wk) e0 =>
  if noOwn e0 vs then (match compD g et ek ea vs (alive w.at_ w.ts) w.ts [] (wipeE e0 vs) with
    | .ok acc e1 => .ok (.dct false acc) (unW e0 e1 vs)
    | _ => .bad) else .bad
theorem keyP_inj {q k : Key} (h : keyP q = keyP k) : q = k := by
  cases q <;> cases k <;> simp [keyP] at h <;> rw [h]
theorem beq_key (q k : Key) : PV.beq (keyP q) (keyP k) = decide (q = k) := by
  cases h : PV.beq (keyP q) (keyP k) with
  | true => exact (decide_eq_true (keyP_inj (PV.beq_eq h))).symm
  | false =>
    symm
    rw [decide_eq_false_iff_not]
    intro e
    rw [e, PV.beq_self] at h
    cases h
section
variable {c : TC} {G : Hp}
theorem keyOf_rep {t : PV} {k : Key} {v : V} (h : keyOf t = some k) (p : Rep c G t v) : v = kV k ∧ t = keyP k := by
  cases t with
  | int i => cases h; exact ⟨p, rfl⟩
  | str x => cases h; exact ⟨p.1, rfl⟩
  | _ => cases h
theorem RepK.len : ∀ {kvs : List (PV × PV)} {ks : List (Key × V)}, RepK c G kvs ks → ks.length = kvs.length
  | [], _, h => by rw [show _ = _ from h]; rfl
  | (_, _) :: r, _, h => by
    obtain ⟨q, v, s, rfl, _, _, hr⟩ := h
    rw [List.length_cons, List.length_cons, RepK.len hr]
theorem RepK.any {k : Key} : ∀ {kvs : List (PV × PV)} {ks : List (Key × V)}, RepK c G kvs ks → (ks.any fun kv => decide (kv.1 = k)) = kvs.any fun kv => PV.beq kv.1 (keyP k)
  | [], _, h => by rw [show _ = _ from h]; rfl
  | (_, _) :: r, _, h => by
    obtain ⟨q, v, s, rfl, rfl, _, hr⟩ := h
    rw [List.any_cons, List.any_cons, RepK.any hr, beq_key]
theorem RepK.mapped {k : Key} {x : PV} {v : V} (p : Rep c G x v) : ∀ {kvs : List (PV × PV)} {ks : List (Key × V)}, RepK c G kvs ks → RepK c G (kvs.map fun kv => if PV.beq kv.1 (keyP k) = true then (kv.1, x) else kv) (ks.map fun kv => if kv.1 = k then (kv.1, v) else kv)
  | [], _, h => by rw [show _ = _ from h]; rfl
  | (_, y) :: r, _, h => by
    obtain ⟨q, u, s, rfl, rfl, hy, hr⟩ := h
    have ih := RepK.mapped (k := k) p hr
    rw [List.map_cons, List.map_cons]
    by_cases e : q = k
    · have b : PV.beq (keyP q) (keyP k) = true := by rw [beq_key]; exact decide_eq_true e
      simp only [b, if_true, if_pos e]
      exact ⟨q, v, _, rfl, rfl, p, ih⟩
    · have b : PV.beq (keyP q) (keyP k) = false := by rw [beq_key]; exact decide_eq_false e
      simp only [b, Bool.false_eq_true, if_false, if_neg e]
      exact ⟨q, u, _, rfl, rfl, hy, ih⟩
theorem RepK.snoc {k : Key} {x : PV} {v : V} (p : Rep c G x v) : ∀ {kvs : List (PV × PV)} {ks : List (Key × V)}, RepK c G kvs ks → RepK c G (kvs ++ [(keyP k, x)]) (ks ++ [(k, v)])
  | [], _, h => by rw [show _ = _ from h]; exact ⟨k, v, [], rfl, rfl, p, rfl⟩
  | (_, _) :: r, _, h => by
    obtain ⟨q, u, s, rfl, rfl, hy, hr⟩ := h
    exact ⟨q, u, _, rfl, rfl, hy, RepK.snoc p hr⟩
theorem RepK.put {k : Key} {x : PV} {v : V} {kvs : List (PV × PV)} {ks : List (Key × V)} (h : RepK c G kvs ks) (p : Rep c G x v) : RepK c G (putP kvs (keyP k) x) (putK ks k v) := by
  unfold putP putK
  rw [h.any]
  split
  · exact h.mapped p
  · exact h.snoc p
end
section
variable {X : Cx} {c : TC} {r : Ref} {W : WX}
def compEndD (e0 : En) (vs : List Nat) (x : RE (List (PV × PV))) : RE OS := match x with
  | .ok acc e1 => .ok (.dct false acc) (unW e0 e1 vs)
  | _ => .bad
/-- the reading of a comprehension -/
theorem dc_imp {ev : EvI} {us vs : List Nat} {g : Tg} {et : EvT} {ek ea : EvE} (hp : ∀ j ∈ vs, (r.pins.map Prod.fst).contains j = false) (hu : ∀ j ∈ us, j ∈ vs) {σ : L2.St} {H : Hp} {Q : VK} (h : TFof c r W (fDcmp ev g et ek ea vs) σ H Q) :
    tDc (TIof c r W ev) (TGof c r us g) (TTof c r W0 et) (TEof c r W0 ek) (TEof c r W0 ea) vs σ H Q := by
  obtain ⟨ads, G, env, R, h⟩ := h
  refine ⟨ads, G, env, R, Sat_mono (Sat_bind.mp h) (fun w e0 h1 ads1 G1 H1 J R1 s1 it D hD => ?_) fun _ _ z => z⟩
  obtain ⟨ts, at_⟩ := w
  by_cases no : noOwn e0 vs = true
  rotate_left
  · rw [if_neg no] at h1; exact h1.elim
  rw [if_pos no] at h1
  have h1 : (compEndD e0 vs (compD g et ek ea vs (alive at_ ts) ts [] (wipeE e0 vs))).Sat _ _ := h1
  have Ri := (R1.lay (ho := .dK []) hD).wipes hp
  have nw := New.of R1 hD
  have hx0 : Hx D ads1 G1 H1 (cutA ads1 vs) G1 (upd H1 D (.dK [])) :=
    (Hx.put ⟨Sub.refl _, fun a o n e m => ⟨e, m, id⟩, fun a n e => e⟩).less cutA_sub
  refine ⟨fun i m H' => m = ts.length - i ∧ ∃ ads' G' env' acc va, RS c r ads' G' H' (wipe σ vs) env' ∧ Hx D ads1 G1 H1 ads' G' H' ∧ H' D = some (.dK va) ∧ RepK c G' acc va ∧ New r ads' G' D ∧
    (compEndD e0 vs (compD g et ek ea vs (alive at_ ts) (ts.drop i) acc env')).Sat (fun o env' => ∀ ads' G' H' p ad, RS c r ads' G' H' σ env' → Nxt ads G H ads' G' H' → OwRep c G' H' p ad o → (∀ a ∈ ad, New r ads' G' a ∧ H a = none) → Q (.ref p) H') (XC c r W G σ),
    ⟨_, rfl, cutA ads1 vs, G1, _, [], [], Ri, hx0, upd_same, rfl, ⟨nw.1, nw.2.1, fun j m => nw.2.2 j (cutA_sub j D m)⟩, h1⟩, ?_⟩
  rintro i m H2 ⟨rfl, ads2, G2, env2, acc, va, R2, s2, hDa, ra, nw2, h2⟩
  by_cases al : alive at_ ts env2 = true
  rotate_left
  · cases q : ts.drop i with
    | nil => rw [q, compD, if_neg al] at h2; exact h2.elim
    | cons t us => rw [q, compD, if_neg al] at h2; exact h2.elim
  obtain ⟨go, stop⟩ := it i ads2 G2 H2 _ env2 R2 s2.sub al
  cases q : ts[i]? with
  | none =>
    have hl : ts.length ≤ i := List.getElem?_eq_none_iff.mp q
    rw [List.drop_eq_nil_of_le hl, compD, if_pos al] at h2
    have sB := s2.nxt hD
    have RB := R1.back no R2 sB hp
    exact .inl ⟨stop hl, h2 (cutA ads2 vs) G2 H2 D [D] RB (s1.trans (sB.less cutA_sub)) ⟨rfl, .inl ⟨rfl, va, hDa, ra⟩⟩ fun a ha => by rw [List.mem_singleton.mp ha]; exact ⟨⟨nw2.1, nw2.2.1, fun j m => nw2.2.2 j (cutA_sub j D m)⟩, s1.there D hD⟩⟩
  | some t =>
    obtain ⟨g1, g2⟩ := go t q
    have hlt : i < ts.length := (List.getElem?_eq_some_iff.mp q).1
    have hd : ts.drop i = t :: ts.drop (i + 1) := by
      rw [List.drop_eq_getElem_cons hlt, (List.getElem?_eq_some_iff.mp q).2]
    rw [hd, compD, if_pos al] at h2
    refine .inr ⟨g1, fun H' => ∃ ads' G' env' acc va, RS c r ads' G' H' (wipe σ vs) env' ∧ Hx D ads1 G1 H1 ads' G' H' ∧ H' D = some (.dK va) ∧ RepK c G' acc va ∧ New r ads' G' D ∧
      (compEndD e0 vs (compD g et ek ea vs (alive at_ ts) (ts.drop (i + 1)) acc env')).Sat (fun o env' => ∀ ads' G' H' p ad, RS c r ads' G' H' σ env' → Nxt ads G H ads' G' H' → OwRep c G' H' p ad o → (∀ a ∈ ad, New r ads' G' a ∧ H a = none) → Q (.ref p) H') (XC c r W G σ), fun H' w => ⟨_, by omega, rfl, w⟩, fun x H' y => ?_⟩
    obtain ⟨G3, st, rx⟩ := g2 x H' y
    have R3 := R2.next st
    have x3 := s2.step (Nxt.of (ads := ads2) st)
    have dD := (Nxt.of (ads := ads2) st).hold D _ hDa nw2.2.2
    have nw3 : New r ads2 G3 D := ⟨dD.2.2 nw2.1, nw2.2.1, dD.2.1⟩
    cases qg : g t env2 with
    | none => rw [qg] at h2; exact h2.elim
    | some e3 =>
      rw [qg] at h2
      refine ⟨ads2, G3, env2, t, e3, R3, rx, qg, fun ads4 σ4 R4 l4 a4 b4 c4 => ?_⟩
      have sub4 : ∀ j a, a ∈ ads4 j → a ∈ ads2 j := fun j a m => by
        by_cases z : j ∈ us
        · rcases c4 j z with w | w
          · rw [w] at m; cases m
          · rw [w] at m; exact m
        · rw [b4 j z] at m; exact m
      have hw : wipe σ4 vs = wipe σ vs := wipe_same (fun j hj => a4 j fun z => hj (hu j z)) (by rw [l4, wipe_length])
      refine ⟨hw, ads4, G3, e3, R4, ?_⟩
      have x4 := x3.less sub4
      have nw4 : New r ads4 G3 D := ⟨nw3.1, nw3.2.1, fun j m => nw3.2.2 j (sub4 j D m)⟩
      simp only at h2
      cases qt : et e3 with
      | bad => rw [qt] at h2; exact h2.elim
      | exc x e => rw [qt] at h2; exact h2.elim
      | ok b e4 =>
        rw [qt] at h2
        simp only at h2
        intro ads5 G5 H5 R5 s5
        have x5 := x4.step s5
        have d5 := s5.hold D _ dD.1 nw4.2.2
        have nw5 : New r ads5 G5 D := ⟨d5.2.2 nw4.1, nw4.2.1, d5.2.1⟩
        have ra5 := ra.mono (st.sub.trans s5.sub)
        cases b with
        | false =>
          refine iteF ⟨cutA ads5 vs, G5, _, acc, va, ?_, x5.less cutA_sub, d5.1, ra5, ⟨nw5.1, nw5.2.1, fun j m => nw5.2.2 j (cutA_sub j D m)⟩, h2⟩
          have R6 := R5.wipes hp
          rw [hw] at R6
          exact R6
        | true =>
          refine iteT ⟨ads5, G5, e4, R5, ?_⟩
          simp only [if_true] at h2
          cases qe : ek e4 with
          | bad => rw [qe] at h2; exact h2.elim
          | exc x e => rw [qe] at h2; exact h2.elim
          | ok x e5 =>
            rw [qe] at h2
            cases x with
            | sl j => exact h2.elim
            | tr tx =>
              simp only at h2
              cases qk : keyOf tx with
              | none => rw [qk] at h2; exact h2.elim
              | some kk =>
                rw [qk] at h2
                simp only at h2
                intro ads6 G6 H6 v6 R6 s6 p6
                have x6 := x5.step s6
                have d6 := s6.hold D _ d5.1 nw5.2.2
                have nw6 : New r ads6 G6 D := ⟨d6.2.2 nw5.1, nw5.2.1, d6.2.1⟩
                have ra6 := ra5.mono s6.sub
                refine ⟨ads6, G6, e5, R6, ?_⟩
                cases qv : ea e5 with
                | bad => rw [qv] at h2; exact h2.elim
                | exc x e => rw [qv] at h2; exact h2.elim
                | ok x e6 =>
                  rw [qv] at h2
                  cases x with
                  | sl j => exact h2.elim
                  | tr ty =>
                    simp only at h2
                    by_cases hl : acc.length < LIM
                    rotate_left
                    · rw [if_neg hl] at h2; exact h2.elim
                    rw [if_pos hl] at h2
                    intro ads7 G7 H7 v7 R7 s7 p7
                    have x7 := x6.step s7
                    have d7 := s7.hold D _ d6.1 nw6.2.2
                    have nw7 : New r ads7 G7 D := ⟨d7.2.2 nw6.1, nw6.2.1, d7.2.1⟩
                    have ra7 := ra6.mono s7.sub
                    obtain ⟨ek1, ek2⟩ := keyOf_rep qk p6
                    refine ⟨va, kk, ek1, d7.1, by rw [ra.len]; exact Nat.lt_of_lt_of_le hl (lim_line (Nat.le_refl _)), cutA ads7 vs, G7, _, putP acc tx ty, putK va kk v7, ?_, x7.put.less cutA_sub, upd_same, ?_, ⟨nw7.1, nw7.2.1, fun j m => nw7.2.2 j (cutA_sub j D m)⟩, h2⟩
                    · have R8 := (R7.scratch (ho' := .dK (putK va kk v7)) nw7 d7.1).wipes hp
                      rw [hw] at R8
                      exact R8
                    · rw [ek2]; exact ra7.put p7
end
section
variable {X : Cx} {c : TC} {r : Ref} {W : WX} {kx vx tg iter : Expr} {ifs : List Expr} {scope : Scope} {own : List (Str × Nat)} {pos : Pos} {ev : EvI} {us : List Nat} {g : Tg} {et : EvT} {ek ea : EvE}
theorem pf_dc (hc : X.calm = true) (hN : X.N.Nodup) (hp : ∀ j ∈ own.map (·.2), (r.pins.map Prod.fst).contains j = false) (hu : ∀ j ∈ us, j ∈ own.map (·.2)) (hi : PI X tg iter (TIof c r W ev)) (ok : BlkOk X.N X.env.scope scope own)
    (hg : ∀ (s : Shared) (H : Hp) (C : Addr) (cl : List (Str × Addr)) (fp : List Addr), PG (X.blk s H scope (compEnvC scope cl C X.env) fp) tg (TGof c r us g)) (ht : ∀ (s : Shared) (H : Hp) (C : Addr) (cl : List (Str × Addr)) (fp : List Addr), PTs (X.blk s H scope (compEnvC scope cl C X.env) fp) ifs (TTof c r W0 et))
    (hk : ∀ (s : Shared) (H : Hp) (C : Addr) (cl : List (Str × Addr)) (fp : List Addr), PE (X.blk s H scope (compEnvC scope cl C X.env) fp) kx (TEof c r W0 ek)) (he : ∀ (s : Shared) (H : Hp) (C : Addr) (cl : List (Str × Addr)) (fp : List Addr), PE (X.blk s H scope (compEnvC scope cl C X.env) fp) vx (TEof c r W0 ea))
    (hs : ∀ x, foldedSetIterable iter X.env x = pure x := by intro _; rfl) :
    PE X (.DictComp kx vx [⟨tg, iter, ifs, 0⟩] scope pos) (TFof c r W (fDcmp ev g et ek ea (own.map (·.2)))) := PE.imp (pe_dc hc hN hi ok hg ht hk he hs) fun _ _ _ h => dc_imp hp hu h
end
/-! ### len of a dict -/
def lenFD : List PV → Option Arg
  | [.dct false kvs] => some (.t (.int kvs.length))
  | _ => none
section
variable {X : Cx} {c : TC}
theorem bu_lenD (hK : X.K = c.K) : CallQ X c (.builtin "len") lenFD := fun G H ts t vs Q e s p q => by
  unfold lenFD at e
  split at e
  · obtain ⟨v, rfl, a, rfl, hx⟩ := pair1 p
    cases e
    rcases hx with ⟨_, ks, hx, rk⟩ | ⟨z, _⟩
    · exact ⟨_, call_lenD, a, ks, rfl, hx, by rw [rk.len]; exact q.t.flat s rep_int⟩
    · cases z
  · cases e
end
/-! ### except without a name -/
@[simp] def sTry0 (ks yes : List Nat) (body suite : EvS) : EvS := fun env => match body env with
  | .exc x e => if ks.contains x.k then (if yes.contains x.k then (match suite e with
      | .exc _ _ => .bad
      | o => o) else .exc x e) else .bad
  | o => o
section
variable {X : Cx} {c : TC} {r : Ref} {W : WX} {xs ys : EvS} {kx : Nat} {ks yes : List Nat} {body suite : List Stmt} {b₀ : Stmt} {x : Str} {np pos pos' : Pos}
theorem ts_try0 (hs : X.stack = X.env :: X.outer) (hf : X.env.frame = some X.env.locals) (hc : Names X x (.ref (c.C kx))) (tk : Takes X W)
    (hks : ∀ k ∈ ks, PySem.W.exmOne X.K (.ref (c.C k)) (.ref (c.C kx)) = some (yes.contains k))
    (hb : ∀ (W' : WX) (pn' : List (Addr × Obj)) (xe : Value → Shared → Prop), Takes (X.tr pn' xe) W' → PassesOwn (model X.prog X.w) X.A X.env xe → PSs (X.tr pn' xe) body (TSof c r W' xs))
    (hsu : ∀ (a : Addr) (oe : Obj) (cls : Value) (d : Option Addr) (pn' : List (Addr × Obj)), Zc cls d oe → (∃ vs, oe.data = .fields vs) → PSs (X.suite a ((a, oe) :: pn')) (b₀ :: suite) (TSof c r W0 ys)) :
    PS X (.Try body [.ExceptHandler (some (.Name x np)) none (b₀ :: suite) pos'] [] [] pos) (TSof c r W (sTry0 ks yes xs ys)) := by
  refine PS.imp (ps_try_only (tb := fun W' => TSof c r W' xs) (ts := fun _ _ _ => TSof c r W0 ys) hs hf hc tk hb hsu) fun D σ H h => ?_
  obtain ⟨ads, G, env, R, h⟩ := h
  refine ⟨ads, G, env, R, ?_⟩
  unfold sTry0 at h
  cases q : xs env with
  | nx e => rw [q] at h; exact h
  | rt t e => rw [q] at h; exact h
  | bk e => rw [q] at h; exact h
  | ct e => rw [q] at h; exact h
  | bad => rw [q] at h; exact h
  | exc y e =>
    rw [q] at h
    dsimp only at h
    intro ads' G' H' σ' cls d R' s' rx
    by_cases hk : ks.contains y.k = true
    rotate_left
    · rw [if_neg hk] at h; exact h.elim
    rw [if_pos hk] at h
    refine ⟨yes.contains y.k, by rw [rx.1]; exact hks _ (List.contains_iff_mem.mp hk), fun hy a ha => ?_, fun hy => ?_⟩
    · rw [if_pos hy] at h
      refine ⟨ads', G', e, R', ?_⟩
      cases q2 : ys e with
      | nx e' => rw [q2] at h; have h' : (SO.nx e').Sat (Kof c r W0 G D) := h; exact Kof.weak s' h'
      | rt t e' => rw [q2] at h; have h' : (SO.rt t e').Sat (Kof c r W0 G D) := h; exact Kof.weak s' h'
      | bk e' => rw [q2] at h; have h' : (SO.bk e').Sat (Kof c r W0 G D) := h; exact Kof.weak s' h'
      | ct e' => rw [q2] at h; have h' : (SO.ct e').Sat (Kof c r W0 G D) := h; exact Kof.weak s' h'
      | bad => rw [q2] at h; exact h.elim
      | exc z e' => rw [q2] at h; exact h.elim
    · rw [hy, if_neg Bool.false_ne_true] at h
      exact h ads' G' H' σ' cls d R' s' rx
end
end TreeL
end
section
/-! TL30: == and != by an __eq__ that several classes inherit. -/
namespace TreeL
open PySem PySem.Spec PyProof.Rows L2
def isInsL (ls : List Nat) (env : En) (x : Vl) : Bool := match look env x with
  | some (.ins k _) => ls.contains k
  | _ => false
theorem isInsL_of {ls : List Nat} {env : En} {x : Vl} (h : isInsL ls env x = true) : ∃ k ∈ ls, isIns k env x = true := by
  unfold isInsL at h
  unfold isIns
  split at h
  · rename_i k fs e
    exact ⟨k, List.contains_iff_mem.mp h, by first | (rw [e]; simp; done) | (simp; done)⟩
  · cases h
def rDun2L (ls : List Nat) (F : FSem) (g : Arg → Option Arg) (ea eb : EvE) : EvR := fun env => (ea env).bind fun x e1 => (eb e1).bind fun y e => if isInsL ls e x && isInsL ls e y then (callOf 2 F [] [x, y] e).bind fun a e => ofO (g a) e else .bad
theorem dunL {ls : List Nat} {F : FSem} {g : Arg → Option Arg} {ea eb : EvE} (h0 : ls ≠ []) (env : En) : (∃ kc ∈ ls, rDun2L ls F g ea eb env = rDun2 kc F g (isInsL ls) ea eb env) ∨ rDun2L ls F g ea eb env = .bad := by
  obtain ⟨k0, hk0⟩ := List.exists_mem_of_ne_nil ls h0
  unfold rDun2L rDun2
  cases ea env with
  | bad => exact .inr rfl
  | exc x e => exact .inl ⟨k0, hk0, rfl⟩
  | ok x e1 =>
    simp only [RE.bind]
    cases eb e1 with
    | bad => exact .inr rfl
    | exc y e => exact .inl ⟨k0, hk0, rfl⟩
    | ok y e =>
      simp only
      cases hx : isInsL ls e x with
      | false => exact .inr rfl
      | true =>
        obtain ⟨k, hk, h1⟩ := isInsL_of hx
        exact .inl ⟨k, hk, by rw [h1]⟩
section
variable {X : Cx} {c : TC} {r : Ref} {W : WX} {F : FSem} {ea eb : EvE} {k kc : Nat} {ls : List Nat} {f : Addr} {fd : FuncData} {ps : List Str} {pos : Pos} {a b : Expr}
def PInsL (c : TC) (ls : List Nat) : V → Hp → Prop := fun v H => ∃ k ∈ ls, PIns c k v H
theorem pinsL_ok : ∀ ads G H σ env y v, RS c r ads G H σ env → VRep c σ G y v → isInsL ls env y = true → PInsL c ls v H := fun _ _ _ _ _ _ _ R p h => by
  obtain ⟨k, hk, h1⟩ := isInsL_of h
  exact ⟨k, hk, pins_ok _ _ _ _ _ _ _ R p h1⟩
theorem eqOwnL_run (hn : ∀ k' ∈ ls, PySem.W.notFirst X.K (c.C kc) (.ref (c.C k')) = true) (M : OwnM X.K (c.C kc) "__eq__" f) (hF : FnG X.prog X.w X.K X.mg X.base k f fd ps (spF c 2 F)) (hb : Binds X.K fd ps []) (hr : RoomG k X.A) (tk : Takes X W) (ha : PE X a (TEof c r W ea)) (hbb : PE X b (TEof c r W eb))
    {pins : List (Addr × Obj)} {st : Shared} {σ : L2.St} {H : Hp} {Q : VK} (I : Inv X pins σ H st) (h : TRof c r W (rDun2 kc F gBl (isInsL ls) ea eb) σ H Q) :
    wpAny (model X.prog X.w) X.A (eval a X.env) (fun v s1 => wpAny (model X.prog X.w) X.A (eval b X.env) (fun u s2 => wpAny (model X.prog X.w) X.A (compareOp .Eq v u) (EP X pins σ Q) X.xe s2) X.xe s1) X.xe st := by
  refine two_run (f2 := compareOp .Eq) pinsL_ok ha hbb (fun pins st σ H x y v u Q ads0 G0 H0 I rx ry ⟨⟨a1, dx, gs, e1, hH⟩, ⟨k2, hk2, a2, dy, gs2, e2, hH2⟩, sp⟩ => ?_) I h
  subst e1; subst e2
  obtain rfl := (show v = Value.ref a1 from rx)
  obtain rfl := (show u = Value.ref a2 from ry)
  obtain ⟨ox, od, J⟩ := inst_of I hH
  obtain ⟨ox2, od2, J2⟩ := inst_of I hH2
  obtain ⟨m, fr⟩ := I.fr
  show wpAny _ _ (richCompare .Eq _ _) _ _ _
  refine PySem.W.cmp_K (op := .Eq) hr.rm.units0 fr I.ok.mod.kin J J2.type (hn k2 hk2) M.at_ M.fn ?_
  refine thn (runG0 hF hb hr I.ok.frames (passAt tk σ) I (.cons rx (.cons ry .nil)) sp) fun u s2 ⟨v2, H2, I2, r2, qg⟩ => ?_
  obtain ⟨bb, rfl, q⟩ := qg.bl gBl_bl
  cases r2
  exact ⟨.bl bb, H2, I2, (show RelV (.bl bb) (.bool bb) from rfl), q⟩
theorem neOwnL_run (hn : ∀ k' ∈ ls, PySem.W.notFirst X.K (c.C kc) (.ref (c.C k')) = true) (M : OwnM X.K (c.C kc) "__eq__" f) (hne : PySem.W.findIn X.K (.ref (c.C kc)) "__ne__" = some (some (.builtin "object.__ne__"))) (hob : PySem.W.mroIn X.K (c.C kc) (.type "object") = some true) (hF : FnG X.prog X.w X.K X.mg X.base k f fd ps (spF c 2 F)) (hb : Binds X.K fd ps []) (hr : RoomG (k + 1) X.A) (tk : Takes X W) (ha : PE X a (TEof c r W ea)) (hbb : PE X b (TEof c r W eb))
    {pins : List (Addr × Obj)} {st : Shared} {σ : L2.St} {H : Hp} {Q : VK} (I : Inv X pins σ H st) (h : TRof c r W (rDun2 kc F gNot (isInsL ls) ea eb) σ H Q) :
    wpAny (model X.prog X.w) X.A (eval a X.env) (fun v s1 => wpAny (model X.prog X.w) X.A (eval b X.env) (fun u s2 => wpAny (model X.prog X.w) X.A (compareOp .NotEq v u) (EP X pins σ Q) X.xe s2) X.xe s1) X.xe st := by
  refine two_run (f2 := compareOp .NotEq) pinsL_ok ha hbb (fun pins st σ H x y v u Q ads0 G0 H0 I rx ry ⟨⟨a1, dx, gs, e1, hH⟩, ⟨k2, hk2, a2, dy, gs2, e2, hH2⟩, sp⟩ => ?_) I h
  subst e1; subst e2
  obtain rfl := (show v = Value.ref a1 from rx)
  obtain rfl := (show u = Value.ref a2 from ry)
  obtain ⟨ox, od, J⟩ := inst_of I hH
  obtain ⟨ox2, od2, J2⟩ := inst_of I hH2
  obtain ⟨m, fr⟩ := I.fr
  show wpAny _ _ (richCompare .NotEq _ _) _ _ _
  refine ne_K (by have := hr.rm.un; omega) fr I.ok.mod.kin J J2.type (hn k2 hk2) hne hob M.at_ M.fn ?_
  refine thn (runG0 hF hb (RoomG.in1 hr) (frames_in1 I.ok.frames) (passAt tk σ) I (.cons rx (.cons ry .nil)) sp) fun u s2 ⟨v2, H2, I2, r2, qg⟩ => ?_
  obtain ⟨bb, rfl, q⟩ := qg.bl gNot_bl
  cases r2
  exact ⟨bb, rfl, .bl (!bb), H2, I2, (show RelV (.bl (!bb)) (.bool !bb) from rfl), q⟩
/-- the reading by one of the classes -/
theorem dunL_imp {g : Arg → Option Arg} (h0 : ls ≠ []) {σ : L2.St} {H : Hp} {Q : VK} (h : TRof c r W (rDun2L ls F g ea eb) σ H Q) : ∃ kc ∈ ls, TRof c r W (rDun2 kc F g (isInsL ls) ea eb) σ H Q := by
  obtain ⟨ads, G, env, R, q⟩ := h
  rcases dunL (F := F) (g := g) (ea := ea) (eb := eb) h0 env with ⟨kc, hk, e⟩ | e
  · rw [e] at q; exact ⟨kc, hk, ads, G, env, R, q⟩
  · rw [e] at q; exact q.elim
/-- what each of the classes must say -/
structure EqL (K : PySem.W.Frag) (c : TC) (ls : List Nat) (f : Addr) : Prop where
  ne : ls ≠ []
  m : ∀ k ∈ ls, OwnM K (c.C k) "__eq__" f
  nf : ∀ k ∈ ls, ∀ k' ∈ ls, PySem.W.notFirst K (c.C k) (.ref (c.C k')) = true
  hne : ∀ k ∈ ls, PySem.W.findIn K (.ref (c.C k)) "__ne__" = some (some (.builtin "object.__ne__"))
  hob : ∀ k ∈ ls, PySem.W.mroIn K (c.C k) (.type "object") = some true
theorem tr_eqOwnL (T : EqL X.K c ls f) (hF : FnG X.prog X.w X.K X.mg X.base k f fd ps (spF c 2 F)) (hb : Binds X.K fd ps []) (hr : RoomG k X.A) (tk : Takes X W) (ha : PE X a (TEof c r W ea)) (hbb : PE X b (TEof c r W eb)) :
    PE X (.Compare a [.Eq] [b] pos) (TRof c r W (rDun2L ls F gBl ea eb)) := ⟨fun pins st σ H Q I h => by
  obtain ⟨kc, hk, h⟩ := dunL_imp T.ne h
  exact wpAny_Compare1 (eqOwnL_run (T.nf kc hk) (T.m kc hk) hF hb hr tk ha hbb I h) (nomark _)⟩
theorem tr_neOwnL (T : EqL X.K c ls f) (hF : FnG X.prog X.w X.K X.mg X.base k f fd ps (spF c 2 F)) (hb : Binds X.K fd ps []) (hr : RoomG (k + 1) X.A) (tk : Takes X W) (ha : PE X a (TEof c r W ea)) (hbb : PE X b (TEof c r W eb)) :
    PE X (.Compare a [.NotEq] [b] pos) (TRof c r W (rDun2L ls F gNot ea eb)) := ⟨fun pins st σ H Q I h => by
  obtain ⟨kc, hk, h⟩ := dunL_imp T.ne h
  exact wpAny_Compare1 (neOwnL_run (T.nf kc hk) (T.m kc hk) (T.hne kc hk) (T.hob kc hk) hF hb hr tk ha hbb I h) (nomark _)⟩
theorem tt_eqOwnL (T : EqL X.K c ls f) (hF : FnG X.prog X.w X.K X.mg X.base k f fd ps (spF c 2 F)) (hb : Binds X.K fd ps []) (hr : RoomG k X.A) (tk : Takes X W) (ha : PE X a (TEof c r W ea)) (hbb : PE X b (TEof c r W eb)) :
    PT X (.Compare a [.Eq] [b] pos) (TTof c r W (tTst (rDun2L ls F gBl ea eb))) := ⟨fun pins st σ H Q I h => by
  obtain ⟨kc, hk, h⟩ := dunL_imp T.ne (tst_imp h)
  refine wpAny_isTrue_Compare1 (thn (eqOwnL_run (T.nf kc hk) (T.m kc hk) hF hb hr tk ha hbb I h) fun v s1 h1 => thn h1 fun u s2 h2 => thn h2 fun cv s3 ⟨z, H3, I3, r3, kk, e, q3⟩ => ?_) (nomark _)
  subst e
  cases r3
  exact wpAny_truthy_bool ⟨H3, I3, q3⟩⟩
theorem tt_neOwnL (T : EqL X.K c ls f) (hF : FnG X.prog X.w X.K X.mg X.base k f fd ps (spF c 2 F)) (hb : Binds X.K fd ps []) (hr : RoomG (k + 1) X.A) (tk : Takes X W) (ha : PE X a (TEof c r W ea)) (hbb : PE X b (TEof c r W eb)) :
    PT X (.Compare a [.NotEq] [b] pos) (TTof c r W (tTst (rDun2L ls F gNot ea eb))) := ⟨fun pins st σ H Q I h => by
  obtain ⟨kc, hk, h⟩ := dunL_imp T.ne (tst_imp h)
  refine wpAny_isTrue_Compare1 (thn (neOwnL_run (T.nf kc hk) (T.m kc hk) (T.hne kc hk) (T.hob kc hk) hF hb hr tk ha hbb I h) fun v s1 h1 => thn h1 fun u s2 h2 => thn h2 fun cv s3 ⟨z, H3, I3, r3, kk, e, q3⟩ => ?_) (nomark _)
  subst e
  cases r3
  exact wpAny_truthy_bool ⟨H3, I3, q3⟩⟩
end
def eqLB1 (cs : List Str) (ls : List Nat) (base : Str) (k : Nat) (K : PySem.W.Frag) : Bool := He.eqO (PySem.W.findIn K (.ref ((tcN K cs).C k)) "__eq__") (some (some (.ref (He.ma K (He.ga K base) "__eq__")))) && PySem.W.isFn K (.ref (He.ma K (He.ga K base) "__eq__")) &&
  (ls.all fun k' => PySem.W.notFirst K ((tcN K cs).C k) (.ref ((tcN K cs).C k'))) && He.eqO (PySem.W.findIn K (.ref ((tcN K cs).C k)) "__ne__") (some (some (.builtin "object.__ne__"))) && decide (PySem.W.mroIn K ((tcN K cs).C k) (.type "object") = some true)
def eqLB (cs : List Str) (ls : List Nat) (base : Str) (K : PySem.W.Frag) : Bool := !ls.isEmpty && ls.all fun k => eqLB1 cs ls base k K
theorem eqLB1_ok {cs : List Str} {ls : List Nat} {base : Str} {k : Nat} {K : PySem.W.Frag} (h : eqLB1 cs ls base k K = true) : OwnM K ((tcN K cs).C k) "__eq__" (He.ma K (He.ga K base) "__eq__") ∧ (∀ k' ∈ ls, PySem.W.notFirst K ((tcN K cs).C k) (.ref ((tcN K cs).C k')) = true) ∧
    PySem.W.findIn K (.ref ((tcN K cs).C k)) "__ne__" = some (some (.builtin "object.__ne__")) ∧ PySem.W.mroIn K ((tcN K cs).C k) (.type "object") = some true := by
  unfold eqLB1 at h
  simp only [Bool.and_eq_true, decide_eq_true_eq] at h
  obtain ⟨⟨⟨⟨a1, a2⟩, a3⟩, a4⟩, a5⟩ := h
  exact ⟨⟨He.eqO_ok a1, a2⟩, fun k' hk => List.all_eq_true.mp a3 k' hk, He.eqO_ok a4, a5⟩
theorem eqLB_ok {cs : List Str} {ls : List Nat} {base : Str} {K : PySem.W.Frag} (h : eqLB cs ls base K = true) : EqL K (tcN K cs) ls (He.ma K (He.ga K base) "__eq__") := by
  unfold eqLB at h
  rw [Bool.and_eq_true] at h
  have z := fun k (hk : k ∈ ls) => eqLB1_ok (List.all_eq_true.mp h.2 k hk)
  exact ⟨(fun e => by rw [e] at h; exact Bool.noConfusion h.1), fun k hk => (z k hk).1, fun k hk => (z k hk).2.1, fun k hk => (z k hk).2.2.1, fun k hk => (z k hk).2.2.2⟩
end TreeL
end
section
/-! defs as functions of trees, first met in law k12; printed by wip/gen2.py -/
open PySem PySem.Spec PyProof.Rows L2 TreeL
def Lib.eb_h_deal_1 : EvS := (sAsg (eBin modP (eRes (rBui intF (aCons (eRes (rBin addA (eRes (rBin mulA (eVar 4) (eCon (.int 16807)))) (eVar 3))) aNil))) (eCon (.int 2147483647))) (gNm 4))
def Lib.ev_h_deal : EvS := (sSeq (sAsg (eOf (fComp (iAny [0, 1] (eRes (rSl (eVar 0) (oSo (eVar 1)) (oSo (eCon (.int 63)))))) (gNm 3) tYesT (eRes (rBui absF (aCons (eVar 3) aNil))) [3])) (gNm 2))
  (sSeq (sAsg (eRes (rBin addA (eCon (.int 15485863)) (eVar 1))) (gNm 4))
  (sSeq (sFor (iAny [0, 1] (eVar 2)) (gNm 3) Lib.eb_h_deal_1)
  (sSeq (sAsg (eOf (fComp (iAny [0, 1] (eVar 2)) (gNm 3) (tBl (eBin geP (eVar 3) (eBin powP (eCon (.int 10)) (eCon (.int 18))))) (eVar 3) [3])) (gNm 5))
  (sRetF (fBox (fRes (rRev (eVar 5))) [("now", (eCon (.int 0))), ("mixed", (eRes (rBin addA (eVar 4) (eCon (.int 1))))), ("turn", (eCon (.int 0)))]))))))
def Lib.F_h_deal : FSem := fDef 6 [0, 1] Lib.ev_h_deal
def Lib.eb_h_draw_1 : EvS := (sBput 0 "now" (eBpop 0))
def Lib.ev_h_draw : EvS := (sSeq (sLoop (tAn (tBl (eBin eqP (eBget 0 "now") (eCon (.int 0)))) (tBl (eBin gtP (eBlen 0) (eCon (.int 0))))) Lib.eb_h_draw_1 1000)
  (sSeq (sIf (tBl (eBin gtP (eBget 0 "now") (eCon (.int 0)))) (sSeq (sAsg (eBin modP (eRes (rBui intF (aCons (eBget 0 "now") aNil))) (eVar 1)) (gNm 2))
  (sSeq (sBput 0 "now" (eBin fdivP (eBget 0 "now") (eVar 1)))
  (sRet [0, 1] (eVar 2)))) sSkip)
  (sSeq (sBput 0 "turn" (eRes (rBin addA (eBget 0 "turn") (eCon (.int 1)))))
  (sSeq (sAsg (eBin modP (eRes (rBui intF (aCons (eRes (rBin addA (eRes (rBin mulA (eBget 0 "mixed") (eCon (.int 48271)))) (eRes (rBin mulA (eBget 0 "turn") (eCon (.int 69621)))))) aNil))) (eCon (.int 2147483629))) (gNm 3))
  (sSeq (sAsg (eBin modP (eRes (rBui intF (aCons (eRes (rBin addA (eRes (rBin mulA (eVar 3) (eVar 3))) (eRes (rBin mulA (eBget 0 "turn") (eCon (.int 7919)))))) aNil))) (eCon (.int 2147483563))) (gNm 4))
  (sSeq (sBput 0 "mixed" (eRes (rBin addA (eBin modP (eRes (rBui intF (aCons (eRes (rBin addA (eRes (rBin mulA (eVar 4) (eCon (.int 40692)))) (eVar 3))) aNil))) (eCon (.int 2147483647))) (eCon (.int 1)))))
  (sRet [0, 1] (eBin modP (eRes (rBui intF (aCons (eRes (rBin addA (eBin fdivP (eVar 4) (eCon (.int 4096))) (eVar 3))) aNil))) (eVar 1)))))))))
def Lib.F_h_draw : FSem := fDef 5 [0, 1] Lib.ev_h_draw
def Lib.eb_h_mixed_1 : EvS := (sEx (eMut "list" appendO 3 (aCons (eMut "list" popO 2 (aCons (eRes (rCall 2 Lib.F_h_draw [] (aCons (eVar 0) (aCons (eRes (rBui lenF (aCons (eVar 2) aNil))) aNil)))) aNil)) aNil)))
def Lib.ev_h_mixed : EvS := (sSeq (sPar 2 3 (bCons (rOwn (fRes (rBui listF (aCons (eVar 1) aNil)))) (bCons (rOwn (fLst aNil)) bNil)))
  (sSeq (sLoop (tBl (eBin neP (eVar 2) (eLst aNil))) Lib.eb_h_mixed_1 1000)
  (sRet [0, 1] (eVar 3))))
def Lib.F_h_mixed : FSem := fDef 4 [0, 1] Lib.ev_h_mixed
def Lib.ev_h_pool : EvS := (sSeq (sAsg (eLst (aCons (eCon (.str "new")) (aCons (eCon (.str "off")) (aCons (eCon (.str "yes")) (aCons (eCon (.str "a")) (aCons (eCon (.str "made")) (aCons (eCon (.str "gone")) (aCons (eCon (.str "some")) (aCons (eCon (.str "all")) (aCons (eCon (.str "at")) (aCons (eCon (.str "mark")) aNil))))))))))) (gNm 0))
  (sRet [] (eRes (rBin addA (eVar 0) (eLst (aCons (eCon (.str "make")) (aCons (eCon (.str "lead")) (aCons (eCon (.str "turn")) (aCons (eCon (.str "free")) (aCons (eCon (.str "zzzz")) aNil))))))))))
def Lib.F_h_pool : FSem := fDef 1 [] Lib.ev_h_pool
def Lib.ev_h_names : EvS := (sRet [0, 1] (eRes (rSl (eRes (rCall 2 Lib.F_h_mixed [] (aCons (eVar 0) (aCons (eRes (rCall 0 Lib.F_h_pool [] aNil)) aNil)))) oNo (oSo (eVar 1)))))
def Lib.F_h_names : FSem := fDef 2 [0, 1] Lib.ev_h_names
def Lib.ev_h_pick : EvS := (sRet [0, 1] (eBin ixP (eVar 1) (eRes (rCall 2 Lib.F_h_draw [] (aCons (eVar 0) (aCons (eRes (rBui lenF (aCons (eVar 1) aNil))) aNil))))))
def Lib.F_h_pick : FSem := fDef 2 [0, 1] Lib.ev_h_pick
def Lib.ev_h_event : EvS := (sSeq (sPar 3 4 (bCons (rTree (eRes (rCall 2 Lib.F_h_draw [] (aCons (eVar 0) (aCons (eCon (.int 8)) aNil))))) (bCons (rTree (eRes (rCall 2 Lib.F_h_draw [] (aCons (eVar 0) (aCons (eVar 1) aNil))))) bNil)))
  (sSeq (sIf (tBl (eBin ltP (eVar 3) (eCon (.int 2)))) (sRet [0, 1, 2] (eTup (aCons (eBin ixP (eLst (aCons (eCon (.str "there")) (aCons (eCon (.str "back")) aNil))) (eVar 3)) (aCons (eVar 4) (aCons (eRes (rCall 2 Lib.F_h_pick [] (aCons (eVar 0) (aCons (eVar 2) aNil)))) aNil))))) sSkip)
  (sSeq (sIf (tBl (eBin eqP (eVar 3) (eCon (.int 2)))) (sRet [0, 1, 2] (eTup (aCons (eCon (.str "turn")) (aCons (eRes (rCall 2 Lib.F_h_draw [] (aCons (eVar 0) (aCons (eCon (.int 12)) aNil)))) aNil)))) sSkip)
  (sRet [0, 1, 2] (eTup (aCons (eBin ixP (eLst (aCons (eCon (.str "time")) (aCons (eCon (.str "build")) (aCons (eCon (.str "leave")) (aCons (eCon (.str "work")) (aCons (eCon (.str "wipe")) aNil)))))) (eBin subP (eVar 3) (eCon (.int 3)))) (aCons (eVar 4) aNil)))))))
def Lib.F_h_event : FSem := fDef 5 [0, 1, 2] Lib.ev_h_event
def Lib.ev_h_weaving : EvS := (sSeq (sAsg (eRes (rCall 2 Lib.F_h_names [] (aCons (eVar 0) (aCons (eCon (.int 8)) aNil)))) (gNm 2))
  (sSeq (sAsg (eOf (fComp (iRngA (aCons (eRes (rBin addA (eCon (.int 1)) (eRes (rCall 2 Lib.F_h_draw [] (aCons (eVar 0) (aCons (eCon (.int 4)) aNil)))))) aNil)) (gNm 4) tYesT (eRes (rCall 2 Lib.F_h_pick [] (aCons (eVar 0) (aCons (eRes (rSl (eVar 2) oNo (oSo (eCon (.int 4))))) aNil)))) [4])) (gNm 3))
  (sRet [0, 1] (eTup (aCons (eVar 3) (aCons (eOf (fComp (iRngA (aCons (eRes (rCall 2 Lib.F_h_draw [] (aCons (eVar 0) (aCons (eRes (rBin addA (eVar 1) (eCon (.int 1)))) aNil)))) aNil)) (gNm 4) tYesT (eRes (rCall 3 Lib.F_h_event [] (aCons (eVar 0) (aCons (eRes (rBui lenF (aCons (eVar 3) aNil))) (aCons (eRes (rSl (eVar 2) (oSo (eCon (.int 4))) oNo)) aNil))))) [4])) aNil))))))
def Lib.F_h_weaving : FSem := fDef 5 [0, 1] Lib.ev_h_weaving
def Lib.ev_h_event_text : EvS := (sRet [0] (eRes (rMet "str" joinM (eCon (.str " ")) (aCons (eOf (fComp (iAny [0] (eVar 0)) (gNm 1) tYesT (eRes (rBui strF (aCons (eVar 1) aNil))) [1])) aNil))))
def Lib.F_h_event_text : FSem := fDef 2 [0] Lib.ev_h_event_text
def Lib.ev_h_weaving_text : EvS := (sRet [0, 1] (eRes (rMet "str" joinM (eCon (.str "; ")) (aCons (eRes (rBin addA (eLst (aCons (eRes (rMet "str" joinM (eCon (.str " ")) (aCons (eVar 0) aNil))) aNil)) (eOf (fComp (iAny [0, 1] (eVar 1)) (gNm 2) tYesT (eRes (rCall 1 Lib.F_h_event_text [] (aCons (eVar 2) aNil))) [2])))) aNil))))
def Lib.F_h_weaving_text : FSem := fDef 3 [0, 1] Lib.ev_h_weaving_text
def Lib.ev_is_sequence (ks : List Nat) : EvS := (sRet [0] (eIsi (tbY [.lst, .tup]) ks (eVar 0)))
def Lib.F_is_sequence (ks : List Nat) : FSem := fDef 1 [0] (Lib.ev_is_sequence ks)
def Lib.ev_is_name (ks : List Nat) : EvS := (sSeq (sIf (tOrr (tNt (tTru (eIsi (tbY [.str]) ks (eVar 0)))) (tOrr (tNt (tOfE (eChn leP leP (eCon (.int 1)) (eRes (rBui lenF (aCons (eVar 0) aNil))) (eCon (.int 4))))) (tBl (eBin inP (eVar 0) (eCon (.tup ((["and", "any", "do", "if", "none", "not", "same", "send", "then", "time", "to", "wipe", "work"] : List PySem.Str).map .str))))))) (sRet [0] (eCon (.bl false))) sSkip)
  (sRet [0] (eRes (rBui allF (aCons (eOf (fComp (iAny [0] (eVar 0)) (gNm 1) tYesT (eBin inP (eVar 1) (eCon (.str "abcdefghijklmnopqrstuvwxyz"))) [1])) aNil)))))
def Lib.F_is_name (ks : List Nat) : FSem := fDef 2 [0] (Lib.ev_is_name ks)
def Lib.ev_are_names (ks : List Nat) : EvS := (sRet [0] (eAnd (eRes (rCall 1 (Lib.F_is_sequence ks) [] (aCons (eVar 0) aNil))) (eRes (rBui allF (aCons (eOf (fComp (iAny [0] (eVar 0)) (gNm 1) tYesT (eRes (rCall 1 (Lib.F_is_name ks) [] (aCons (eVar 1) aNil))) [1])) aNil)))))
def Lib.F_are_names (ks : List Nat) : FSem := fDef 2 [0] (Lib.ev_are_names ks)
def Lib.ev_are_firsts (ks : List Nat) : EvS := (sRet [0] (eAnd (eRes (rCall 1 (Lib.F_are_names ks) [] (aCons (eVar 0) aNil))) (eBin gtP (eRes (rBui lenF (aCons (eVar 0) aNil))) (eCon (.int 0)))))
def Lib.F_are_firsts (ks : List Nat) : FSem := fDef 1 [0] (Lib.ev_are_firsts ks)
def Lib.ev_is_integer (ks : List Nat) : EvS := (sRet [0] (eAnd (eIsi (tbY [.int, .bl]) ks (eVar 0)) (eNot (eIsi (tbY [.bl]) ks (eVar 0)))))
def Lib.F_is_integer (ks : List Nat) : FSem := fDef 1 [0] (Lib.ev_is_integer ks)
def Lib.ev_is_step (ks : List Nat) : EvS := (sRet [0, 1] (eAnd (eRes (rCall 1 (Lib.F_is_integer ks) [] (aCons (eVar 0) aNil))) (eChn leP ltP (eCon (.int 0)) (eVar 0) (eVar 1))))
def Lib.F_is_step (ks : List Nat) : FSem := fDef 2 [0, 1] (Lib.ev_is_step ks)
def Lib.ev_is_event (ks : List Nat) : EvS := (sSeq (sIf (tOrr (tNt (tTru (eIsi (tbY [.tup]) ks (eVar 0)))) (tOrr (tBl (eBin eqP (eRes (rBui lenF (aCons (eVar 0) aNil))) (eCon (.int 0)))) (tNt (tTru (eIsi (tbY [.str]) ks (eBin ixP (eVar 0) (eCon (.int 0)))))))) (sRet [0, 1] (eCon (.bl false))) sSkip)
  (sSeq (sMatch (eVar 0) (cSeq [2, 3] (tBl (eBin inP (eVar 2) (eCon (.tup ((["time", "build", "leave", "work", "wipe"] : List PySem.Str).map .str))))) (sRet [0, 1] (eRes (rCall 2 (Lib.F_is_step ks) [] (aCons (eVar 3) (aCons (eVar 1) aNil))))) (cSeq [2, 3, 4] (tBl (eBin inP (eVar 2) (eCon (.tup ((["back", "there"] : List PySem.Str).map .str))))) (sRet [0, 1] (eAnd (eRes (rCall 2 (Lib.F_is_step ks) [] (aCons (eVar 3) (aCons (eVar 1) aNil)))) (eRes (rCall 1 (Lib.F_is_name ks) [] (aCons (eVar 4) aNil))))) (cSeq [2, 5] (tBl (eBin eqP (eVar 2) (eCon (.str "turn")))) (sRet [0, 1] (eAnd (eRes (rCall 1 (Lib.F_is_integer ks) [] (aCons (eVar 5) aNil))) (eBin geP (eVar 5) (eCon (.int 0))))) cNil))))
  (sRet [0, 1] (eCon (.bl false)))))
def Lib.F_is_event (ks : List Nat) : FSem := fDef 6 [0, 1] (Lib.ev_is_event ks)
def Lib.eb_Weaving___init___1 (ks : List Nat) : EvS := (sIf (tNt (tTru (eRes (rCall 2 (Lib.F_is_event ks) [] (aCons (eVar 4) (aCons (eRes (rBui lenF (aCons (eVar 1) aNil))) aNil)))))) (sRaise 23 "at" (eVar 3)) sSkip)
def Lib.ev_Weaving___init__ (ks : List Nat) : EvS := (sSeq (sIf (tOrr (tNt (tTru (eRes (rCall 1 (Lib.F_are_firsts ks) [] (aCons (eVar 1) aNil))))) (tNt (tTru (eRes (rCall 1 (Lib.F_is_sequence ks) [] (aCons (eVar 2) aNil)))))) (sRaise 23 "at" (eCon (.int 0))) sSkip)
  (sSeq (sFor (iEnumS (aCons (eVar 2) aNil)) (gTpL 2 (gsCons (gNm 3) (gsCons (gNm 4) gsNil))) (Lib.eb_Weaving___init___1 ks))
  (sSeq (sFldT 0 6 "firsts" (eRes (rBui tupleF (aCons (eVar 1) aNil))))
  (sFldT 0 6 "events" (eRes (rBui tupleF (aCons (eVar 2) aNil)))))))
def Lib.F_Weaving___init__ (ks : List Nat) : FSem := fDef 5 [0, 1, 2] (Lib.ev_Weaving___init__ ks)
def Lib.ev_number_in : EvS := (sSeq (sIf (tOrr (tNt (tOfE (eChn leP leP (eCon (.int 1)) (eRes (rBui lenF (aCons (eVar 0) aNil))) (eVar 1)))) (tNt (tTru (eRes (rBui allF (aCons (eOf (fComp (iAny [0, 1] (eVar 0)) (gNm 2) tYesT (eBin inP (eVar 2) (eCon (.str "0123456789"))) [2])) aNil)))))) (sRet [0, 1] (eCon .non)) sSkip)
  (sRet [0, 1] (eIf (tOrr (tBl (eBin eqP (eVar 0) (eCon (.str "0")))) (tBl (eBin neP (eBin ixP (eVar 0) (eCon (.int 0))) (eCon (.str "0"))))) (eRes (rBui intF (aCons (eVar 0) aNil))) (eCon .non))))
def Lib.F_number_in : FSem := fDef 3 [0, 1] Lib.ev_number_in
def Lib.ev_event_in (ks : List Nat) : EvS := (sSeq (sAsg (eRes (rMet "str" splitM (eVar 0) (aCons (eCon (.str " ")) aNil))) (gStr 1 (gsCons (gNm 2) (gsCons (gNm 3) gsNil))))
  (sSeq (sAsg (eIf (tBl (eBin gtP (eRes (rBui lenF (aCons (eVar 3) aNil))) (eCon (.int 0)))) (eRes (rCall 2 Lib.F_number_in [.int 4] (aCons (eBin ixP (eVar 3) (eCon (.int 0))) aNil))) (eCon .non)) (gNm 4))
  (sSeq (sAsg (eTup (aCons (eVar 2) (aCons (eVar 4) (aStar (eRes (rSl (eVar 3) (oSo (eCon (.int 1))) oNo)) aNil)))) (gNm 5))
  (sRet [0, 1] (eIf (tAn (tBl (eBin notNP (eVar 4) (eCon .non))) (tTru (eRes (rCall 2 (Lib.F_is_event ks) [] (aCons (eVar 5) (aCons (eVar 1) aNil)))))) (eVar 5) (eCon .non))))))
def Lib.F_event_in (ks : List Nat) : FSem := fDef 6 [0, 1] (Lib.ev_event_in ks)
def Lib.ev_Weaving_read (ks : List Nat) : EvS := (sSeq (sAsg (eRes (rMet "str" splitM (eVar 1) (aCons (eCon (.str "; ")) aNil))) (gStr 1 (gsCons (gNm 2) (gsCons (gNm 3) gsNil))))
  (sSeq (sAsg (eRes (rMet "str" splitM (eVar 2) (aCons (eCon (.str " ")) aNil))) (gNm 4))
  (sSeq (sIf (tNt (tTru (eRes (rCall 1 (Lib.F_are_firsts ks) [] (aCons (eVar 4) aNil))))) (sRaise 22 "at" (eCon (.int 0))) sSkip)
  (sSeq (sAsg (eOf (fComp (iAny [0, 1] (eVar 3)) (gNm 6) tYesT (eRes (rCall 2 (Lib.F_event_in ks) [] (aCons (eVar 6) (aCons (eRes (rBui lenF (aCons (eVar 4) aNil))) aNil)))) [6])) (gNm 5))
  (sSeq (sIf (tBl (eBin inP (eCon .non) (eVar 5))) (sRaise 22 "at" (eRes (rBin addA (eCon (.int 1)) (eRes (rMet "list" indexM (eVar 5) (aCons (eCon .non) aNil)))))) sSkip)
  (sRet [0, 1] (eRes (rMakeV 0 6 3 (Lib.F_Weaving___init__ ks) [] (aCons (eVar 4) (aCons (eVar 5) aNil))))))))))
def Lib.F_Weaving_read (ks : List Nat) : FSem := fDef 7 [0, 1] (Lib.ev_Weaving_read ks)
def Lib.ev_Weaving___str__ (ks : List Nat) : EvS := (sSeq (sAsg (eOf (fComp (iAny [0] (eFl [6] ks "events" (eVar 0))) (gNm 3) tYesT (eRes (rMet "str" joinM (eCon (.str " ")) (aCons (eOf (fComp (iAny [0] (eVar 3)) (gNm 2) tYesT (eRes (rBui strF (aCons (eVar 2) aNil))) [2])) aNil))) [3])) (gNm 1))
  (sRet [0] (eRes (rMet "str" joinM (eCon (.str "; ")) (aCons (eLst (aCons (eRes (rMet "str" joinM (eCon (.str " ")) (aCons (eFl [6, 7] ks "firsts" (eVar 0)) aNil))) (aStar (eVar 1) aNil))) aNil)))))
def Lib.F_Weaving___str__ (ks : List Nat) : FSem := fDef 4 [0] (Lib.ev_Weaving___str__ ks)
def Lib.ev_Weaving___eq__ (ks : List Nat) : EvS := (sRet [0, 1] (eAnd (eIsi (tbY [.ins 6]) ks (eVar 1)) (eBin eqP (eTup (aCons (eFl [6, 7] ks "firsts" (eVar 0)) (aCons (eFl [6] ks "events" (eVar 0)) aNil))) (eTup (aCons (eFl [6, 7] ks "firsts" (eVar 1)) (aCons (eFl [6] ks "events" (eVar 1)) aNil))))))
def Lib.F_Weaving___eq__ (ks : List Nat) : FSem := fDef 2 [0, 1] (Lib.ev_Weaving___eq__ ks)
def Lib.ev_Weaving___getitem__ (ks : List Nat) : EvS := (sSeq (sIf (tNt (tTru (eIsi (tbY [.int, .bl]) ks (eVar 1)))) (sRet [0, 1] (eRes (rMake 6 3 (Lib.F_Weaving___init__ ks) [] (aCons (eFl [6, 7] ks "firsts" (eVar 0)) (aCons (eBin ixP (eFl [6] ks "events" (eVar 0)) (eVar 1)) aNil))))) sSkip)
  (sSeq (sIf (tNt (tOfE (eChn leP ltP (eCon (.int 0)) (eVar 1) (eRes (rBui lenF (aCons (eFl [6] ks "events" (eVar 0)) aNil)))))) (sRaise 30 "at" (eVar 1)) sSkip)
  (sRet [0, 1] (eBin ixP (eFl [6] ks "events" (eVar 0)) (eVar 1)))))
def Lib.F_Weaving___getitem__ (ks : List Nat) : FSem := fDef 2 [0, 1] (Lib.ev_Weaving___getitem__ ks)
namespace Lk12
abbrev ks : List Nat := [6]
def eb_law_1 : EvS := (sSeq (sAsg (eRes (rCall 2 Lib.F_h_weaving [] (aCons (eVar 1) (aCons (eCon (.int 40)) aNil)))) (gTpL 2 (gsCons (gNm 3) (gsCons (gNm 4) gsNil))))
  (sSeq (sAsg (eOf (fComp (iAny [0] (eVar 4)) (gNm 5) tYesT (eIf (tBl (eBin eqP (eBin ixP (eVar 5) (eCon (.int 0))) (eCon (.str "turn")))) (eTup (aCons (eCon (.str "turn")) (aCons (eRes (rCall 2 Lib.F_h_draw [] (aCons (eVar 1) (aCons (eCon (.int 10000)) aNil)))) aNil))) (eVar 5)) [5])) (gNm 4))
  (sSeq (sPar 6 7 (bCons (rTree (eRes (rMake 6 3 (Lib.F_Weaving___init__ ks) [] (aCons (eVar 3) (aCons (eVar 4) aNil))))) (bCons (rTree (eRes (rCall 2 Lib.F_h_weaving_text [] (aCons (eVar 3) (aCons (eVar 4) aNil))))) bNil)))
  (sSeq (sAsg (eRes (rCls 6 2 (Lib.F_Weaving_read ks) [] (aCons (eVar 7) aNil))) (gNm 8))
  (sSeq (sIf (tOrr (tBl (eBin neP (eRes (rDun1 6 (Lib.F_Weaving___str__ ks) okStr (eVar 6))) (eVar 7))) (tOrr (tBl (eBin neP (eRes (rDun1 6 (Lib.F_Weaving___str__ ks) okStr (eVar 8))) (eVar 7))) (tTst (rDun2 6 (Lib.F_Weaving___eq__ ks) gNot (isIns 6) (eVar 8) (eVar 6))))) (sRet [0] (eCon (.bl false))) sSkip)
  (sSeq (sIf (tBl (eBin neP (eRes (rBui reprF (aCons (eTup (aCons (eFl [6, 7] ks "firsts" (eVar 8)) (aCons (eFl [6] ks "events" (eVar 8)) aNil))) aNil))) (eRes (rBui reprF (aCons (eTup (aCons (eRes (rBui tupleF (aCons (eVar 3) aNil))) (aCons (eRes (rBui tupleF (aCons (eVar 4) aNil))) aNil))) aNil))))) (sRet [0] (eCon (.bl false))) sSkip)
  (sSeq (sAsg (eOf (fComp (iAny [0] (eVar 4)) (gNm 5) tYesT (eRes (rCls 6 2 (Lib.F_Weaving_read ks) [] (aCons (eRes (rBin addA (eRes (rBin addA (eRes (rMet "str" joinM (eCon (.str " ")) (aCons (eVar 3) aNil))) (eCon (.str "; ")))) (eRes (rCall 1 Lib.F_h_event_text [] (aCons (eVar 5) aNil))))) aNil))) [5])) (gNm 9))
  (sIf (tOrr (tBl (eBin neP (eOf (fComp (iAny [0] (eVar 9)) (gNm 10) tYesT (eRes (rDun2 6 (Lib.F_Weaving___getitem__ ks) gId anyY (eVar 10) (eCon (.int 0)))) [10])) (eVar 4))) (tTst (rDun2 6 (Lib.F_Weaving___eq__ ks) gNot (isIns 6) (eRes (rCls 6 2 (Lib.F_Weaving_read ks) [] (aCons (eRes (rMet "str" joinM (eCon (.str " ")) (aCons (eVar 3) aNil))) aNil))) (eRes (rMake 6 3 (Lib.F_Weaving___init__ ks) [.tup []] (aCons (eVar 3) aNil)))))) (sRet [0] (eCon (.bl false))) sSkip))))))))
def ev_law : EvS := (sSeq (sOwn 1 (fRes (rCall 2 Lib.F_h_deal [] (aCons (eVar 0) (aCons (eCon (.int 0)) aNil)))))
  (sSeq (sFor (iRngA (aCons (eCon (.int 8)) aNil)) (gNm 2) eb_law_1)
  (sRet [0] (eRes (rDun2 6 (Lib.F_Weaving___eq__ ks) gBl (isIns 6) (eRes (rCls 6 2 (Lib.F_Weaving_read ks) [] (aCons (eCon (.str "a b; back 1 ok; turn 9999")) aNil))) (eRes (rMake 6 3 (Lib.F_Weaving___init__ ks) [] (aCons (eLst (aCons (eCon (.str "a")) (aCons (eCon (.str "b")) aNil))) (aCons (eLst (aCons (eTup (aCons (eCon (.str "back")) (aCons (eCon (.int 1)) (aCons (eCon (.str "ok")) aNil)))) (aCons (eTup (aCons (eCon (.str "turn")) (aCons (eCon (.int 9999)) aNil))) aNil))) aNil)))))))))
def F_law : FSem := fDef 11 [0] ev_law
end Lk12
end
section
/-! defs as functions of trees, first met in law k06; printed by wip/gen2.py -/
open PySem PySem.Spec PyProof.Rows L2 TreeL
def Lib.ev_h_string : EvS := (sSeq (sAsg (eLst (aCons (eCon (.str "and")) (aCons (eCon (.str "any")) (aCons (eCon (.str "do")) (aCons (eCon (.str "if")) (aCons (eCon (.str "none")) (aCons (eCon (.str "not")) (aCons (eCon (.str "same")) (aCons (eCon (.str "send")) aNil))))))))) (gNm 1))
  (sSeq (sAsg (eRes (rBin addA (eVar 1) (eLst (aCons (eCon (.str "then")) (aCons (eCon (.str "time")) (aCons (eCon (.str "to")) (aCons (eCon (.str "wipe")) (aCons (eCon (.str "work")) (aCons (eCon (.str "made")) (aCons (eCon (.str "some")) aNil)))))))))) (gNm 1))
  (sSeq (sIf (tBl (eBin eqP (eRes (rCall 2 Lib.F_h_draw [] (aCons (eVar 0) (aCons (eCon (.int 2)) aNil)))) (eCon (.int 0)))) (sSeq (sPar 2 3 (bCons (rTree (eRes (rCall 2 Lib.F_h_pick [] (aCons (eVar 0) (aCons (eVar 1) aNil))))) (bCons (rTree (eRes (rCall 2 Lib.F_h_draw [] (aCons (eVar 0) (aCons (eCon (.int 4)) aNil))))) bNil)))
  (sRet [0] (eRes (rCall 2 Lib.F_h_pick [] (aCons (eVar 0) (aCons (eLst (aCons (eVar 2) (aCons (eRes (rSl (eVar 2) (oSo (eVar 3)) oNo)) (aCons (eRes (rSl (eVar 2) oNo (oSo (eVar 3)))) (aCons (eRes (rBin addA (eVar 2) (eCon (.str "s")))) (aCons (eRes (rBin addA (eRes (rSl (eVar 2) oNo (oSo (eCon (.int 1))))) (eVar 2))) aNil)))))) aNil)))))) sSkip)
  (sSeq (sAsg (eLst (aCons (eCon (.str "a")) (aCons (eCon (.str "z")) (aCons (eCon (.str "o")) (aCons (eCon (.str "t")) (aCons (eCon (.str "n")) (aCons (eCon (.str "A")) (aCons (eCon (.str "1")) (aCons (eCon (.str " ")) (aCons (eCon (.str "-")) (aCons (eCon (.str "\n")) (aCons (eCon (.str "_")) aNil)))))))))))) (gNm 4))
  (sSeq (sAsg (eIf (tBl (eBin gtP (eRes (rCall 2 Lib.F_h_draw [] (aCons (eVar 0) (aCons (eCon (.int 4)) aNil)))) (eCon (.int 0)))) (eRes (rSl (eVar 4) oNo (oSo (eCon (.int 5))))) (eVar 4)) (gNm 5))
  (sRet [0] (eRes (rMet "str" joinM (eCon (.str "")) (aCons (eOf (fComp (iRngA (aCons (eRes (rBin addA (eCon (.int 1)) (eRes (rCall 2 Lib.F_h_draw [] (aCons (eVar 0) (aCons (eCon (.int 5)) aNil)))))) aNil)) (gNm 6) tYesT (eRes (rCall 2 Lib.F_h_pick [] (aCons (eVar 0) (aCons (eVar 5) aNil)))) [6])) aNil)))))))))
def Lib.F_h_string : FSem := fDef 7 [0] Lib.ev_h_string
def Lib.ev_First___init__ (ks : List Nat) : EvS := (sSeq (sIf (tNt (tTru (eRes (rCall 1 (Lib.F_is_name ks) [] (aCons (eVar 1) aNil))))) (sRaise 20 "word" (eCon (.str "place"))) sSkip)
  (sFldT 0 1 "place" (eVar 1)))
def Lib.F_First___init__ (ks : List Nat) : FSem := fDef 2 [0, 1] (Lib.ev_First___init__ ks)
def Lib.ev_is_word (ks : List Nat) : EvS := (sRet [0, 1] (eAnd (eIsi (tbY [.str]) ks (eVar 0)) (eBin inP (eVar 0) (eVar 1))))
def Lib.F_is_word (ks : List Nat) : FSem := fDef 2 [0, 1] (Lib.ev_is_word ks)
def Lib.ev_are_unlike_names (ks : List Nat) : EvS := (sSeq (sIf (tNt (tTru (eRes (rCall 1 (Lib.F_are_names ks) [] (aCons (eVar 0) aNil))))) (sRet [0] (eCon (.bl false))) sSkip)
  (sRet [0] (eBin eqP (eRes (rBui lenFD (aCons (eOf (fDcmp (iAny [0] (eVar 0)) (gNm 1) tYesT (eVar 1) (eCon (.bl true)) [1])) aNil))) (eRes (rBui lenF (aCons (eVar 0) aNil))))))
def Lib.F_are_unlike_names (ks : List Nat) : FSem := fDef 2 [0] (Lib.ev_are_unlike_names ks)
def Lib.ev_Mode___init__ (ks : List Nat) : EvS := (sSeq (sIf (tNt (tTru (eRes (rCall 1 (Lib.F_is_name ks) [] (aCons (eVar 1) aNil))))) (sRaise 20 "word" (eCon (.str "name"))) sSkip)
  (sSeq (sIf (tAn (tBl (eBin notNP (eVar 2) (eCon .non))) (tNt (tTru (eRes (rCall 2 (Lib.F_is_word ks) [] (aCons (eVar 2) (aCons (eCon (.tup ((["made", "gone"] : List PySem.Str).map .str))) aNil))))))) (sRaise 20 "word" (eCon (.str "promise"))) sSkip)
  (sSeq (sIf (tOrr (tNt (tTru (eRes (rCall 1 (Lib.F_are_unlike_names ks) [] (aCons (eVar 3) aNil))))) (tBl (eBin neP (eBin gtP (eRes (rBui lenF (aCons (eVar 3) aNil))) (eCon (.int 0))) (eBin notNP (eVar 2) (eCon .non))))) (sRaise 20 "word" (eCon (.str "ends"))) sSkip)
  (sSeq (sFldT 0 2 "name" (eVar 1))
  (sSeq (sFldT 0 2 "promise" (eVar 2))
  (sFldT 0 2 "ends" (eRes (rBui tupleF (aCons (eVar 3) aNil)))))))))
def Lib.F_Mode___init__ (ks : List Nat) : FSem := fDef 4 [0, 1, 2, 3] (Lib.ev_Mode___init__ ks)
def Lib.ev_Turn___init__ (ks : List Nat) : EvS := (sSeq (sIf (tNt (tTru (eRes (rCall 1 (Lib.F_is_name ks) [] (aCons (eVar 1) aNil))))) (sRaise 20 "word" (eCon (.str "mode"))) sSkip)
  (sSeq (sIf (tNt (tTru (eRes (rCall 2 (Lib.F_is_word ks) [] (aCons (eVar 2) (aCons (eCon (.tup ((["some", "all", "time"] : List PySem.Str).map .str))) aNil)))))) (sRaise 20 "word" (eCon (.str "way"))) sSkip)
  (sSeq (sIf (tOrr (tNt (tTru (eRes (rCall 1 (Lib.F_are_unlike_names ks) [] (aCons (eVar 3) aNil))))) (tBl (eBin neP (eBin gtP (eRes (rBui lenF (aCons (eVar 3) aNil))) (eCon (.int 0))) (eBin neP (eVar 2) (eCon (.str "time")))))) (sRaise 20 "word" (eCon (.str "places"))) sSkip)
  (sSeq (sIf (tNt (tTru (eRes (rCall 1 (Lib.F_is_name ks) [] (aCons (eVar 4) aNil))))) (sRaise 20 "word" (eCon (.str "then"))) sSkip)
  (sSeq (sFldT 0 3 "mode" (eVar 1))
  (sSeq (sFldT 0 3 "way" (eVar 2))
  (sSeq (sFldT 0 3 "places" (eRes (rBui tupleF (aCons (eVar 3) aNil))))
  (sFldT 0 3 "then" (eVar 4)))))))))
def Lib.F_Turn___init__ (ks : List Nat) : FSem := fDef 5 [0, 1, 2, 3, 4] (Lib.ev_Turn___init__ ks)
def Lib.ev_Lead___init__ (ks : List Nat) : EvS := (sSeq (sIf (tAn (tNt (tTru (eRes (rCall 1 (Lib.F_is_name ks) [] (aCons (eVar 1) aNil))))) (tNt (tTru (eRes (rCall 2 (Lib.F_is_word ks) [] (aCons (eVar 1) (aCons (eTup (aCons (eCon (.str "any")) aNil)) aNil))))))) (sRaise 20 "word" (eCon (.str "mode"))) sSkip)
  (sSeq (sIf (tAn (tNt (tTru (eRes (rCall 1 (Lib.F_is_name ks) [] (aCons (eVar 2) aNil))))) (tNt (tTru (eRes (rCall 2 (Lib.F_is_word ks) [] (aCons (eVar 2) (aCons (eTup (aCons (eCon (.str "any")) aNil)) aNil))))))) (sRaise 20 "word" (eCon (.str "place"))) sSkip)
  (sSeq (sIf (tAn (tNt (tTru (eRes (rCall 1 (Lib.F_is_name ks) [] (aCons (eVar 3) aNil))))) (tNt (tTru (eRes (rCall 2 (Lib.F_is_word ks) [] (aCons (eVar 3) (aCons (eTup (aCons (eCon (.str "time")) aNil)) aNil))))))) (sRaise 20 "word" (eCon (.str "event"))) sSkip)
  (sSeq (sIf (tAn (tNt (tTru (eRes (rCall 1 (Lib.F_is_name ks) [] (aCons (eVar 4) aNil))))) (tNt (tTru (eRes (rCall 2 (Lib.F_is_word ks) [] (aCons (eVar 4) (aCons (eTup (aCons (eCon (.str "same")) aNil)) aNil))))))) (sRaise 20 "word" (eCon (.str "then"))) sSkip)
  (sSeq (sIf (tNt (tTru (eRes (rCall 1 (Lib.F_are_names ks) [] (aCons (eVar 5) aNil))))) (sRaise 20 "word" (eCon (.str "sends"))) sSkip)
  (sSeq (sFldT 0 4 "mode" (eVar 1))
  (sSeq (sFldT 0 4 "place" (eVar 2))
  (sSeq (sFldT 0 4 "event" (eVar 3))
  (sSeq (sFldT 0 4 "then" (eVar 4))
  (sFldT 0 4 "sends" (eRes (rBui tupleF (aCons (eVar 5) aNil)))))))))))))
def Lib.F_Lead___init__ (ks : List Nat) : FSem := fDef 6 [0, 1, 2, 3, 4, 5] (Lib.ev_Lead___init__ ks)
def Lib.ev_is_phase (ks : List Nat) : EvS := (sRet [0] (eOr (eRes (rCall 1 (Lib.F_is_name ks) [] (aCons (eVar 0) aNil))) (eRes (rCall 2 (Lib.F_is_word ks) [] (aCons (eVar 0) (aCons (eTup (aCons (eCon (.str "none")) aNil)) aNil))))))
def Lib.F_is_phase (ks : List Nat) : FSem := fDef 1 [0] (Lib.ev_is_phase ks)
def Lib.ev_is_test (ks : List Nat) : EvS := (sSeq (sIf (tNt (tTru (eIsi (tbY [.str]) ks (eVar 0)))) (sRet [0] (eCon (.bl false))) sSkip)
  (sSeq (sMatch (eRes (rMet "str" splitM (eRes (rMet "str" removeprefixM (eVar 0) (aCons (eCon (.str "not ")) aNil))) (aCons (eCon (.str " ")) aNil))) (cSeq [1, 2] (fun env => RE.ok true env) (sRet [0] (eIf (tBl (eBin eqP (eVar 1) (eCon (.str "at")))) (eRes (rCall 1 (Lib.F_is_phase ks) [] (aCons (eVar 2) aNil))) (eAnd (eBin eqP (eVar 1) (eCon (.str "marked"))) (eRes (rCall 1 (Lib.F_is_name ks) [] (aCons (eVar 2) aNil)))))) (cSeq [1] (fun env => RE.ok true env) (sRet [0] (eBin inP (eVar 1) (eCon (.tup ((["made", "built"] : List PySem.Str).map .str))))) cNil)))
  (sRet [0] (eCon (.bl false)))))
def Lib.F_is_test (ks : List Nat) : FSem := fDef 3 [0] (Lib.ev_is_test ks)
def Lib.ev_is_deed (ks : List Nat) : EvS := (sSeq (sIf (tNt (tTru (eIsi (tbY [.str]) ks (eVar 0)))) (sRet [0] (eCon (.bl false))) sSkip)
  (sSeq (sMatch (eRes (rMet "str" splitM (eVar 0) (aCons (eCon (.str " ")) aNil))) (cSeq [1, 2] (fun env => RE.ok true env) (sRet [0] (eIf (tBl (eBin eqP (eVar 1) (eCon (.str "to")))) (eRes (rCall 1 (Lib.F_is_phase ks) [] (aCons (eVar 2) aNil))) (eAnd (eBin inP (eVar 1) (eCon (.tup ((["mark", "clear", "send"] : List PySem.Str).map .str)))) (eRes (rCall 1 (Lib.F_is_name ks) [] (aCons (eVar 2) aNil)))))) (cSeq [1] (fun env => RE.ok true env) (sRet [0] (eBin inP (eVar 1) (eCon (.tup ((["make", "take", "grip", "free"] : List PySem.Str).map .str))))) cNil)))
  (sRet [0] (eCon (.bl false)))))
def Lib.F_is_deed (ks : List Nat) : FSem := fDef 3 [0] (Lib.ev_is_deed ks)
def Lib.ev_House___init__ (ks : List Nat) : EvS := (sSeq (sIf (tAn (tNt (tTru (eRes (rCall 1 (Lib.F_is_name ks) [] (aCons (eVar 1) aNil))))) (tNt (tTru (eRes (rCall 2 (Lib.F_is_word ks) [] (aCons (eVar 1) (aCons (eCon (.tup ((["build", "leave", "work", "wipe"] : List PySem.Str).map .str))) aNil))))))) (sRaise 20 "word" (eCon (.str "event"))) sSkip)
  (sSeq (sIf (tOrr (tNt (tTru (eRes (rCall 1 (Lib.F_is_sequence ks) [] (aCons (eVar 2) aNil))))) (tNt (tTru (eRes (rBui allF (aCons (eOf (fComp (iAny [0, 1, 2, 3] (eVar 2)) (gNm 4) tYesT (eRes (rCall 1 (Lib.F_is_test ks) [] (aCons (eVar 4) aNil))) [4])) aNil)))))) (sRaise 20 "word" (eCon (.str "tests"))) sSkip)
  (sSeq (sIf (tOrr (tNt (tTru (eRes (rCall 1 (Lib.F_is_sequence ks) [] (aCons (eVar 3) aNil))))) (tNt (tTru (eRes (rBui allF (aCons (eOf (fComp (iAny [0, 1, 2, 3] (eVar 3)) (gNm 5) tYesT (eRes (rCall 1 (Lib.F_is_deed ks) [] (aCons (eVar 5) aNil))) [5])) aNil)))))) (sRaise 20 "word" (eCon (.str "deeds"))) sSkip)
  (sSeq (sFldT 0 5 "event" (eVar 1))
  (sSeq (sFldT 0 5 "tests" (eRes (rBui tupleF (aCons (eVar 2) aNil))))
  (sFldT 0 5 "deeds" (eRes (rBui tupleF (aCons (eVar 3) aNil)))))))))
def Lib.F_House___init__ (ks : List Nat) : FSem := fDef 6 [0, 1, 2, 3] (Lib.ev_House___init__ ks)
def Lib.ev_h_is_let (ks : List Nat) : EvS := (sSeq (sAsg (eCon (.bl true)) (gNm 2))
  (sSeq (sTry0 [20] [20] (sIf (tBl (eBin eqP (eVar 0) (eCon (.int 0)))) (sEx (eRes (rMake 1 2 (Lib.F_First___init__ ks) [] (aCons (eVar 1) aNil)))) (sIf (tBl (eBin eqP (eVar 0) (eCon (.int 1)))) (sEx (eRes (rMake 2 4 (Lib.F_Mode___init__ ks) [] (aCons (eCon (.str "a")) (aCons (eCon (.str "made")) (aCons (eIf (tBl (eBin neP (eVar 1) (eCon (.str "b")))) (eLst (aCons (eCon (.str "b")) (aCons (eVar 1) aNil))) (eLst (aCons (eVar 1) aNil))) aNil)))))) (sIf (tBl (eBin eqP (eVar 0) (eCon (.int 2)))) (sEx (eRes (rMake 3 5 (Lib.F_Turn___init__ ks) [] (aCons (eCon (.str "a")) (aCons (eCon (.str "some")) (aCons (eLst (aCons (eVar 1) aNil)) (aCons (eCon (.str "b")) aNil))))))) (sIf (tBl (eBin eqP (eVar 0) (eCon (.int 3)))) (sEx (eRes (rMake 4 6 (Lib.F_Lead___init__ ks) [] (aCons (eCon (.str "a")) (aCons (eCon (.str "b")) (aCons (eCon (.str "c")) (aCons (eCon (.str "d")) (aCons (eLst (aCons (eCon (.str "e")) (aCons (eVar 1) aNil))) aNil)))))))) (sIf (tBl (eBin eqP (eVar 0) (eCon (.int 4)))) (sEx (eRes (rMake 5 4 (Lib.F_House___init__ ks) [.tup []] (aCons (eCon (.str "a")) (aCons (eLst (aCons (eRes (rBin addA (eCon (.str "marked ")) (eVar 1))) aNil)) aNil))))) (sEx (eRes (rMake 5 4 (Lib.F_House___init__ ks) [] (aCons (eCon (.str "a")) (aCons (eLst aNil) (aCons (eLst (aCons (eCon (.str "make")) (aCons (eRes (rBin addA (eCon (.str "send ")) (eVar 1))) aNil))) aNil))))))))))) (sAsg (eCon (.bl false)) (gNm 2)))
  (sRet [0, 1] (eVar 2))))
def Lib.F_h_is_let (ks : List Nat) : FSem := fDef 3 [0, 1] (Lib.ev_h_is_let ks)
def Lib.ev_h_is_name_c : EvS := (sSeq (sAsg (eLst (aCons (eCon (.str "and")) (aCons (eCon (.str "any")) (aCons (eCon (.str "do")) (aCons (eCon (.str "if")) (aCons (eCon (.str "none")) (aCons (eCon (.str "not")) (aCons (eCon (.str "same")) (aCons (eCon (.str "send")) (aCons (eCon (.str "then")) (aCons (eCon (.str "time")) (aCons (eCon (.str "to")) (aCons (eCon (.str "wipe")) (aCons (eCon (.str "work")) aNil)))))))))))))) (gNm 1))
  (sSeq (sIf (tOrr (tBl (eBin inP (eVar 0) (eVar 1))) (tOrr (tBl (eBin ltP (eRes (rBui lenF (aCons (eVar 0) aNil))) (eCon (.int 1)))) (tBl (eBin gtP (eRes (rBui lenF (aCons (eVar 0) aNil))) (eCon (.int 4)))))) (sRet [0] (eCon (.bl false))) sSkip)
  (sRet [0] (eBin eqP (eOf (fComp (iAny [0] (eVar 0)) (gNm 2) (tBl (eBin ninP (eVar 2) (eCon (.str "abcdefghijklmnopqrstuvwxyz")))) (eVar 2) [2])) (eLst aNil)))))
def Lib.F_h_is_name_c : FSem := fDef 3 [0] Lib.ev_h_is_name_c
namespace Lk06
abbrev ks : List Nat := [0, 1, 2, 3, 4, 5]
def eb_law_1 : EvS := (sSeq (sPar 3 4 (bCons (rTree (eRes (rCall 1 Lib.F_h_string [] (aCons (eVar 1) aNil)))) (bCons (rTree (eRes (rCall 2 Lib.F_h_draw [] (aCons (eVar 1) (aCons (eCon (.int 6)) aNil))))) bNil)))
  (sIf (tBl (eBin neP (eRes (rBui reprF (aCons (eRes (rCall 2 (Lib.F_h_is_let ks) [] (aCons (eVar 4) (aCons (eVar 3) aNil)))) aNil))) (eRes (rBui reprF (aCons (eRes (rCall 1 Lib.F_h_is_name_c [] (aCons (eVar 3) aNil))) aNil))))) (sRet [0] (eCon (.bl false))) sSkip))
def ev_law : EvS := (sSeq (sOwn 1 (fRes (rCall 2 Lib.F_h_deal [] (aCons (eVar 0) (aCons (eCon (.int 0)) aNil)))))
  (sSeq (sFor (iRngA (aCons (eCon (.int 30)) aNil)) (gNm 2) eb_law_1)
  (sSeq (sIf (tOrr (tTru (eRes (rCall 2 (Lib.F_h_is_let ks) [] (aCons (eCon (.int 5)) (aCons (eCon (.str "send")) aNil))))) (tTru (eRes (rCall 2 (Lib.F_h_is_let ks) [] (aCons (eCon (.int 2)) (aCons (eCon (.str "to a")) aNil)))))) (sRet [0] (eCon (.bl false))) sSkip)
  (sRet [0] (eAnd (eRes (rCall 2 (Lib.F_h_is_let ks) [] (aCons (eCon (.int 0)) (aCons (eCon (.str "mode")) aNil)))) (eRes (rCall 2 (Lib.F_h_is_let ks) [] (aCons (eCon (.int 4)) (aCons (eCon (.str "at")) aNil)))))))))
def F_law : FSem := fDef 5 [0] ev_law
end Lk06
end
section
/-! defs as functions of trees, first met in law k04; printed by wip/gen2.py -/
open PySem PySem.Spec PyProof.Rows L2 TreeL
def Lib.ev_h_test : EvS := (sSeq (sAsg (eLst (aCons (eRes (rBin addA (eCon (.str "at ")) (eRes (rCall 2 Lib.F_h_pick [] (aCons (eVar 0) (aCons (eRes (rBin addA (eVar 1) (eLst (aCons (eCon (.str "none")) aNil)))) aNil)))))) (aCons (eRes (rBin addA (eCon (.str "marked ")) (eRes (rCall 2 Lib.F_h_pick [] (aCons (eVar 0) (aCons (eVar 1) aNil)))))) (aCons (eCon (.str "made")) (aCons (eCon (.str "built")) aNil))))) (gNm 2))
  (sRet [0, 1] (eRes (rBin addA (eRes (rCall 2 Lib.F_h_pick [] (aCons (eVar 0) (aCons (eLst (aCons (eCon (.str "")) (aCons (eCon (.str "not ")) aNil))) aNil)))) (eRes (rCall 2 Lib.F_h_pick [] (aCons (eVar 0) (aCons (eVar 2) aNil))))))))
def Lib.F_h_test : FSem := fDef 3 [0, 1] Lib.ev_h_test
def Lib.ev_h_few : EvS := (sSeq (sAsg (eRes (rSl (eOf (fComp (iEnumS (aCons (eVar 0) aNil)) (gTpL 2 (gsCons (gNm 2) (gsCons (gNm 3) gsNil))) (tBl (eBin eqP (eRes (rSl (eVar 3) oNo (oSo (eCon (.int 5))))) (eCon (.str "send ")))) (eVar 2) [2, 3])) (oSo (eCon (.int 3))) oNo)) (gNm 1))
  (sRetF (fComp (iEnumS (aCons (eVar 0) aNil)) (gTpL 2 (gsCons (gNm 2) (gsCons (gNm 3) gsNil))) (tBl (eBin ninP (eVar 2) (eVar 1))) (eVar 3) [2, 3])))
def Lib.F_h_few : FSem := fDef 4 [0] Lib.ev_h_few
def Lib.ev_h_deed : EvS := (sSeq (sAsg (eLst (aCons (eRes (rBin addA (eCon (.str "to ")) (eRes (rCall 2 Lib.F_h_pick [] (aCons (eVar 0) (aCons (eRes (rBin addA (eVar 1) (eLst (aCons (eCon (.str "none")) aNil)))) aNil)))))) aNil)) (gNm 2))
  (sSeq (sAsg (eRes (rBin addA (eVar 2) (eLst (aCons (eRes (rBin addA (eCon (.str "mark ")) (eRes (rCall 2 Lib.F_h_pick [] (aCons (eVar 0) (aCons (eVar 1) aNil)))))) (aCons (eCon (.str "make")) (aCons (eCon (.str "take")) (aCons (eCon (.str "grip")) (aCons (eCon (.str "free")) aNil)))))))) (gNm 2))
  (sRet [0, 1] (eRes (rCall 2 Lib.F_h_pick [] (aCons (eVar 0) (aCons (eRes (rBin addA (eVar 2) (eLst (aCons (eRes (rBin addA (eCon (.str "clear ")) (eRes (rCall 2 Lib.F_h_pick [] (aCons (eVar 0) (aCons (eVar 1) aNil)))))) (aCons (eRes (rBin addA (eCon (.str "send ")) (eRes (rCall 2 Lib.F_h_pick [] (aCons (eVar 0) (aCons (eVar 1) aNil)))))) aNil))))) aNil)))))))
def Lib.F_h_deed : FSem := fDef 3 [0, 1] Lib.ev_h_deed
def Lib.ev_h_row : EvS := (sSeq (sAsg (eTup (aCons (eRes (rCall 2 Lib.F_h_names [] (aCons (eVar 0) (aCons (eCon (.int 6)) aNil)))) (aCons (eRes (rCall 2 Lib.F_h_draw [] (aCons (eVar 0) (aCons (eCon (.int 6)) aNil)))) aNil))) (gTpL 2 (gsCons (gNm 1) (gsCons (gNm 2) gsNil))))
  (sSeq (sIf (tBl (eBin eqP (eVar 2) (eCon (.int 0)))) (sRet [0] (eTup (aCons (eCon (.str "first")) (aCons (eBin ixP (eVar 1) (eCon (.int 0))) aNil)))) sSkip)
  (sSeq (sIf (tBl (eBin eqP (eVar 2) (eCon (.int 1)))) (sSeq (sAsg (eRes (rCall 2 Lib.F_h_pick [] (aCons (eVar 0) (aCons (eLst (aCons (eCon .non) (aCons (eCon (.str "made")) (aCons (eCon (.str "gone")) aNil)))) aNil)))) (gNm 3))
  (sRet [0] (eTup (aCons (eCon (.str "mode")) (aCons (eBin ixP (eVar 1) (eCon (.int 0))) (aCons (eVar 3) (aCons (eIf (tBl (eBin isNP (eVar 3) (eCon .non))) (eLst aNil) (eRes (rSl (eVar 1) (oSo (eCon (.int 1))) (oSo (eRes (rBin addA (eCon (.int 2)) (eRes (rCall 2 Lib.F_h_draw [] (aCons (eVar 0) (aCons (eCon (.int 4)) aNil)))))))))) aNil))))))) sSkip)
  (sSeq (sIf (tBl (eBin eqP (eVar 2) (eCon (.int 2)))) (sSeq (sAsg (eRes (rCall 2 Lib.F_h_pick [] (aCons (eVar 0) (aCons (eLst (aCons (eCon (.str "some")) (aCons (eCon (.str "all")) (aCons (eCon (.str "time")) aNil)))) aNil)))) (gNm 4))
  (sRet [0] (eTup (aCons (eCon (.str "turn")) (aCons (eBin ixP (eVar 1) (eCon (.int 0))) (aCons (eVar 4) (aCons (eIf (tBl (eBin eqP (eVar 4) (eCon (.str "time")))) (eLst aNil) (eRes (rSl (eVar 1) (oSo (eCon (.int 1))) (oSo (eRes (rBin addA (eCon (.int 2)) (eRes (rCall 2 Lib.F_h_draw [] (aCons (eVar 0) (aCons (eCon (.int 3)) aNil)))))))))) (aCons (eBin ixP (eVar 1) (eCon (.int 5))) aNil)))))))) sSkip)
  (sSeq (sIf (tBl (eBin eqP (eVar 2) (eCon (.int 3)))) (sSeq (sPar 5 6 (bCons (rTree (eRes (rCall 2 Lib.F_h_pick [] (aCons (eVar 0) (aCons (eLst (aCons (eBin ixP (eVar 1) (eCon (.int 0))) (aCons (eCon (.str "any")) aNil))) aNil))))) (bCons (rTree (eRes (rCall 2 Lib.F_h_pick [] (aCons (eVar 0) (aCons (eLst (aCons (eBin ixP (eVar 1) (eCon (.int 1))) (aCons (eCon (.str "any")) aNil))) aNil))))) bNil)))
  (sSeq (sAsg (eOf (fComp (iRngA (aCons (eRes (rCall 2 Lib.F_h_draw [] (aCons (eVar 0) (aCons (eCon (.int 4)) aNil)))) aNil)) (gNm 8) tYesT (eRes (rCall 2 Lib.F_h_pick [] (aCons (eVar 0) (aCons (eVar 1) aNil)))) [8])) (gNm 7))
  (sRet [0] (eTup (aCons (eCon (.str "lead")) (aCons (eVar 5) (aCons (eVar 6) (aCons (eRes (rCall 2 Lib.F_h_pick [] (aCons (eVar 0) (aCons (eLst (aCons (eBin ixP (eVar 1) (eCon (.int 2))) (aCons (eCon (.str "time")) aNil))) aNil)))) (aCons (eRes (rCall 2 Lib.F_h_pick [] (aCons (eVar 0) (aCons (eLst (aCons (eBin ixP (eVar 1) (eCon (.int 3))) (aCons (eCon (.str "same")) aNil))) aNil)))) (aCons (eVar 7) aNil)))))))))) sSkip)
  (sSeq (sAsg (eRes (rCall 2 Lib.F_h_pick [] (aCons (eVar 0) (aCons (eLst (aCons (eBin ixP (eVar 1) (eCon (.int 0))) (aCons (eBin ixP (eVar 1) (eCon (.int 1))) (aCons (eCon (.str "build")) (aCons (eCon (.str "leave")) (aCons (eCon (.str "work")) (aCons (eCon (.str "wipe")) aNil))))))) aNil)))) (gNm 9))
  (sSeq (sAsg (eOf (fComp (iRngA (aCons (eRes (rCall 2 Lib.F_h_draw [] (aCons (eVar 0) (aCons (eCon (.int 4)) aNil)))) aNil)) (gNm 8) tYesT (eRes (rCall 2 Lib.F_h_test [] (aCons (eVar 0) (aCons (eVar 1) aNil)))) [8])) (gNm 10))
  (sRet [0] (eTup (aCons (eCon (.str "house")) (aCons (eVar 9) (aCons (eVar 10) (aCons (eRes (rCall 1 Lib.F_h_few [] (aCons (eOf (fComp (iRngA (aCons (eRes (rCall 2 Lib.F_h_draw [] (aCons (eVar 0) (aCons (eCon (.int 6)) aNil)))) aNil)) (gNm 8) tYesT (eRes (rCall 2 Lib.F_h_deed [] (aCons (eVar 0) (aCons (eVar 1) aNil)))) [8])) aNil))) aNil)))))))))))))
def Lib.F_h_row : FSem := fDef 11 [0] Lib.ev_h_row
def Lib.ev_h_text : EvS := (sSeq (sIf (tBl (eBin eqP (eBin ixP (eVar 0) (eCon (.int 0))) (eCon (.str "first")))) (sRet [0] (eRes (rBin addA (eCon (.str "first ")) (eBin ixP (eVar 0) (eCon (.int 1)))))) sSkip)
  (sSeq (sIf (tBl (eBin eqP (eBin ixP (eVar 0) (eCon (.int 0))) (eCon (.str "mode")))) (sRet [0] (eRes (rMet "str" joinM (eCon (.str " ")) (aCons (eRes (rBin addA (eLst (aCons (eCon (.str "mode")) (aCons (eBin ixP (eVar 0) (eCon (.int 1))) aNil))) (eIf (tBl (eBin isNP (eBin ixP (eVar 0) (eCon (.int 2))) (eCon .non))) (eLst aNil) (eRes (rBin addA (eLst (aCons (eBin ixP (eVar 0) (eCon (.int 2))) aNil)) (eRes (rBui listF (aCons (eBin ixP (eVar 0) (eCon (.int 3))) aNil)))))))) aNil)))) sSkip)
  (sSeq (sIf (tBl (eBin eqP (eBin ixP (eVar 0) (eCon (.int 0))) (eCon (.str "turn")))) (sRet [0] (eRes (rMet "str" joinM (eCon (.str " ")) (aCons (eRes (rBin addA (eRes (rBin addA (eLst (aCons (eCon (.str "turn")) (aCons (eBin ixP (eVar 0) (eCon (.int 1))) (aCons (eBin ixP (eVar 0) (eCon (.int 2))) aNil)))) (eRes (rBui listF (aCons (eBin ixP (eVar 0) (eCon (.int 3))) aNil))))) (eLst (aCons (eCon (.str "to")) (aCons (eBin ixP (eVar 0) (eCon (.int 4))) aNil))))) aNil)))) sSkip)
  (sSeq (sIf (tBl (eBin eqP (eBin ixP (eVar 0) (eCon (.int 0))) (eCon (.str "lead")))) (sSeq (sAsg (eRes (rMet "str" joinM (eCon (.str " ")) (aCons (eRes (rBin addA (eRes (rBui listF (aCons (eRes (rSl (eVar 0) oNo (oSo (eCon (.int 4))))) aNil))) (eLst (aCons (eCon (.str "to")) (aCons (eBin ixP (eVar 0) (eCon (.int 4))) aNil))))) aNil))) (gNm 1))
  (sRet [0] (eIf (tBl (eBin eqP (eRes (rBui listF (aCons (eBin ixP (eVar 0) (eCon (.int 5))) aNil))) (eLst aNil))) (eVar 1) (eRes (rBin addA (eRes (rBin addA (eVar 1) (eCon (.str " send ")))) (eRes (rMet "str" joinM (eCon (.str " and ")) (aCons (eBin ixP (eVar 0) (eCon (.int 5))) aNil)))))))) sSkip)
  (sSeq (sAsg (eRes (rBin addA (eCon (.str "house ")) (eBin ixP (eVar 0) (eCon (.int 1))))) (gNm 2))
  (sSeq (sAsg (eIf (tBl (eBin eqP (eRes (rBui listF (aCons (eBin ixP (eVar 0) (eCon (.int 2))) aNil))) (eLst aNil))) (eVar 2) (eRes (rBin addA (eRes (rBin addA (eVar 2) (eCon (.str " if ")))) (eRes (rMet "str" joinM (eCon (.str " and ")) (aCons (eBin ixP (eVar 0) (eCon (.int 2))) aNil)))))) (gNm 2))
  (sRet [0] (eIf (tBl (eBin eqP (eRes (rBui listF (aCons (eBin ixP (eVar 0) (eCon (.int 3))) aNil))) (eLst aNil))) (eVar 2) (eRes (rBin addA (eRes (rBin addA (eVar 2) (eCon (.str " do ")))) (eRes (rMet "str" joinM (eCon (.str " then ")) (aCons (eBin ixP (eVar 0) (eCon (.int 3))) aNil)))))))))))))
def Lib.F_h_text : FSem := fDef 3 [0] Lib.ev_h_text
def Lib.ev_h_made (ks : List Nat) : EvS := (sSeq (sIf (tBl (eBin eqP (eBin ixP (eVar 0) (eCon (.int 0))) (eCon (.str "first")))) (sRet [0] (eRes (rMake 1 2 (Lib.F_First___init__ ks) [] (aCons (eBin ixP (eVar 0) (eCon (.int 1))) aNil)))) sSkip)
  (sSeq (sIf (tBl (eBin eqP (eBin ixP (eVar 0) (eCon (.int 0))) (eCon (.str "mode")))) (sRet [0] (eRes (rMake 2 4 (Lib.F_Mode___init__ ks) [] (aCons (eBin ixP (eVar 0) (eCon (.int 1))) (aCons (eBin ixP (eVar 0) (eCon (.int 2))) (aCons (eBin ixP (eVar 0) (eCon (.int 3))) aNil)))))) sSkip)
  (sSeq (sIf (tBl (eBin eqP (eBin ixP (eVar 0) (eCon (.int 0))) (eCon (.str "turn")))) (sRet [0] (eRes (rMake 3 5 (Lib.F_Turn___init__ ks) [] (aCons (eBin ixP (eVar 0) (eCon (.int 1))) (aCons (eBin ixP (eVar 0) (eCon (.int 2))) (aCons (eBin ixP (eVar 0) (eCon (.int 3))) (aCons (eBin ixP (eVar 0) (eCon (.int 4))) aNil))))))) sSkip)
  (sSeq (sIf (tBl (eBin eqP (eBin ixP (eVar 0) (eCon (.int 0))) (eCon (.str "lead")))) (sRet [0] (eRes (rMake 4 6 (Lib.F_Lead___init__ ks) [] (aCons (eBin ixP (eVar 0) (eCon (.int 1))) (aCons (eBin ixP (eVar 0) (eCon (.int 2))) (aCons (eBin ixP (eVar 0) (eCon (.int 3))) (aCons (eBin ixP (eVar 0) (eCon (.int 4))) (aCons (eBin ixP (eVar 0) (eCon (.int 5))) aNil)))))))) sSkip)
  (sRet [0] (eRes (rMake 5 4 (Lib.F_House___init__ ks) [] (aCons (eBin ixP (eVar 0) (eCon (.int 1))) (aCons (eBin ixP (eVar 0) (eCon (.int 2))) (aCons (eBin ixP (eVar 0) (eCon (.int 3))) aNil))))))))))
def Lib.F_h_made (ks : List Nat) : FSem := fDef 1 [0] (Lib.ev_h_made ks)
def Lib.ev_joined : EvS := (sRet [0, 1] (eIf (tBl (eBin isNP (eVar 0) (eCon .non))) (eLst aNil) (eRes (rMet "str" splitM (eRes (rMet "str" joinM (eCon (.str " ")) (aCons (eVar 0) aNil))) (aCons (eJs [(eCon (.str " ")), (eFmt (eVar 1)), (eCon (.str " "))]) aNil)))))
def Lib.F_joined : FSem := fDef 2 [0, 1] Lib.ev_joined
def Lib.ev_lead_in (ks : List Nat) : EvS := (sSeq (sMatch (eVar 0) (cSeq [1, 2, 3, 4, 5] (fun env => RE.ok true env) (sRet [0] (eRes (rMake 4 6 (Lib.F_Lead___init__ ks) [.tup []] (aCons (eVar 1) (aCons (eVar 2) (aCons (eVar 3) (aCons (eVar 5) aNil))))))) (cStar 6 [1, 2, 3, 4, 5, 6, 7] (fun env => RE.ok true env) (sRet [0] (eRes (rMake 4 6 (Lib.F_Lead___init__ ks) [] (aCons (eVar 1) (aCons (eVar 2) (aCons (eVar 3) (aCons (eVar 5) (aCons (eRes (rCall 2 Lib.F_joined [] (aCons (eVar 7) (aCons (eCon (.str "and")) aNil)))) aNil)))))))) cNil)))
  (sRet [0] (eCon .non)))
def Lib.F_lead_in (ks : List Nat) : FSem := fDef 8 [0] (Lib.ev_lead_in ks)
def Lib.ev_parted : EvS := (sSeq (sIf (tBl (eBin ninP (eVar 1) (eVar 0))) (sRet [0, 1] (eTup (aCons (eVar 0) (aCons (eCon .non) aNil)))) sSkip)
  (sSeq (sAsg (eRes (rMet "list" indexM (eVar 0) (aCons (eVar 1) aNil))) (gNm 2))
  (sRet [0, 1] (eTup (aCons (eRes (rSl (eVar 0) oNo (oSo (eVar 2)))) (aCons (eRes (rSl (eVar 0) (oSo (eRes (rBin addA (eVar 2) (eCon (.int 1))))) oNo)) aNil))))))
def Lib.F_parted : FSem := fDef 3 [0, 1] Lib.ev_parted
def Lib.ev_house_in (ks : List Nat) : EvS := (sSeq (sAsg (eRes (rCall 2 Lib.F_parted [] (aCons (eVar 1) (aCons (eCon (.str "do")) aNil)))) (gTpL 2 (gsCons (gNm 2) (gsCons (gNm 3) gsNil))))
  (sSeq (sAsg (eIf (tBl (eBin eqP (eRes (rSl (eVar 2) oNo (oSo (eCon (.int 1))))) (eLst (aCons (eCon (.str "if")) aNil)))) (eRes (rSl (eVar 2) (oSo (eCon (.int 1))) oNo)) (eCon .non)) (gNm 4))
  (sRet [0, 1] (eRes (rMake 5 4 (Lib.F_House___init__ ks) [] (aCons (eVar 0) (aCons (eRes (rCall 2 Lib.F_joined [] (aCons (eVar 4) (aCons (eCon (.str "and")) aNil)))) (aCons (eRes (rCall 2 Lib.F_joined [] (aCons (eVar 3) (aCons (eCon (.str "then")) aNil)))) aNil))))))))
def Lib.F_house_in (ks : List Nat) : FSem := fDef 5 [0, 1] (Lib.ev_house_in ks)
def Lib.ev_row_in (ks : List Nat) : EvS := (sSeq (sPar 1 2 (bCons (rTree (eBin ixP (eVar 0) (eCon (.int 0)))) (bCons (rTree (eRes (rSl (eVar 0) (oSo (eCon (.int 1))) oNo))) bNil)))
  (sSeq (sIf (tAn (tBl (eBin eqP (eVar 1) (eCon (.str "first")))) (tBl (eBin eqP (eRes (rBui lenF (aCons (eVar 2) aNil))) (eCon (.int 1))))) (sRet [0] (eRes (rMake 1 2 (Lib.F_First___init__ ks) [] (aCons (eBin ixP (eVar 2) (eCon (.int 0))) aNil)))) sSkip)
  (sSeq (sIf (tAn (tBl (eBin eqP (eVar 1) (eCon (.str "mode")))) (tBl (eBin gtP (eRes (rBui lenF (aCons (eVar 2) aNil))) (eCon (.int 0))))) (sRet [0] (eRes (rMake 2 4 (Lib.F_Mode___init__ ks) [] (aCons (eBin ixP (eVar 2) (eCon (.int 0))) (aCons (eIf (tBl (eBin gtP (eRes (rBui lenF (aCons (eVar 2) aNil))) (eCon (.int 1)))) (eBin ixP (eVar 2) (eCon (.int 1))) (eCon .non)) (aCons (eRes (rSl (eVar 2) (oSo (eCon (.int 2))) oNo)) aNil)))))) sSkip)
  (sSeq (sIf (tAn (tBl (eBin eqP (eVar 1) (eCon (.str "turn")))) (tBl (eBin gtP (eRes (rBui lenF (aCons (eVar 2) aNil))) (eCon (.int 3))))) (sRet [0] (eRes (rMake 3 5 (Lib.F_Turn___init__ ks) [] (aCons (eBin ixP (eVar 2) (eCon (.int 0))) (aCons (eBin ixP (eVar 2) (eCon (.int 1))) (aCons (eRes (rSl (eVar 2) (oSo (eCon (.int 2))) (oSo (eUn negP (eCon (.int 2)))))) (aCons (eBin ixP (eVar 2) (eUn negP (eCon (.int 1)))) aNil))))))) sSkip)
  (sSeq (sIf (tBl (eBin eqP (eVar 1) (eCon (.str "lead")))) (sRet [0] (eRes (rCall 1 (Lib.F_lead_in ks) [] (aCons (eVar 2) aNil)))) sSkip)
  (sRet [0] (eIf (tAn (tBl (eBin eqP (eVar 1) (eCon (.str "house")))) (tBl (eBin gtP (eRes (rBui lenF (aCons (eVar 2) aNil))) (eCon (.int 0))))) (eRes (rCall 2 (Lib.F_house_in ks) [] (aCons (eBin ixP (eVar 2) (eCon (.int 0))) (aCons (eRes (rSl (eVar 2) (oSo (eCon (.int 1))) oNo)) aNil)))) (eCon .non))))))))
def Lib.F_row_in (ks : List Nat) : FSem := fDef 3 [0] (Lib.ev_row_in ks)
def Lib.ev_House___str__ (ks : List Nat) : EvS := (sSeq (sAsg (eIf (tBl (eBin eqP (eFl [5] ks "tests" (eVar 0)) (eTup aNil))) (eLst aNil) (eLst (aCons (eCon (.str "if")) (aCons (eRes (rMet "str" joinM (eCon (.str " and ")) (aCons (eFl [5] ks "tests" (eVar 0)) aNil))) aNil)))) (gNm 1))
  (sSeq (sAsg (eIf (tBl (eBin eqP (eFl [5] ks "deeds" (eVar 0)) (eTup aNil))) (eLst aNil) (eLst (aCons (eCon (.str "do")) (aCons (eRes (rMet "str" joinM (eCon (.str " then ")) (aCons (eFl [5] ks "deeds" (eVar 0)) aNil))) aNil)))) (gNm 2))
  (sRet [0] (eRes (rMet "str" joinM (eCon (.str " ")) (aCons (eLst (aCons (eCon (.str "house")) (aCons (eFl [4, 5, 11] ks "event" (eVar 0)) (aStar (eVar 1) (aStar (eVar 2) aNil))))) aNil))))))
def Lib.F_House___str__ (ks : List Nat) : FSem := fDef 3 [0] (Lib.ev_House___str__ ks)
def Lib.ev_Lead___str__ (ks : List Nat) : EvS := (sSeq (sAsg (eIf (tBl (eBin eqP (eFl [4] ks "sends" (eVar 0)) (eTup aNil))) (eLst aNil) (eLst (aCons (eCon (.str "send")) (aCons (eRes (rMet "str" joinM (eCon (.str " and ")) (aCons (eFl [4] ks "sends" (eVar 0)) aNil))) aNil)))) (gNm 1))
  (sRet [0] (eRes (rMet "str" joinM (eCon (.str " ")) (aCons (eLst (aCons (eCon (.str "lead")) (aCons (eFl [3, 4, 9, 10] ks "mode" (eVar 0)) (aCons (eFl [1, 4] ks "place" (eVar 0)) (aCons (eFl [4, 5, 11] ks "event" (eVar 0)) (aCons (eCon (.str "to")) (aCons (eFl [3, 4] ks "then" (eVar 0)) (aStar (eVar 1) aNil)))))))) aNil)))))
def Lib.F_Lead___str__ (ks : List Nat) : FSem := fDef 2 [0] (Lib.ev_Lead___str__ ks)
def Lib.ev_Turn___str__ (ks : List Nat) : EvS := (sRet [0] (eRes (rMet "str" joinM (eCon (.str " ")) (aCons (eLst (aCons (eCon (.str "turn")) (aCons (eFl [3, 4, 9, 10] ks "mode" (eVar 0)) (aCons (eFl [3] ks "way" (eVar 0)) (aStar (eFl [3, 7] ks "places" (eVar 0)) (aCons (eCon (.str "to")) (aCons (eFl [3, 4] ks "then" (eVar 0)) aNil))))))) aNil))))
def Lib.F_Turn___str__ (ks : List Nat) : FSem := fDef 1 [0] (Lib.ev_Turn___str__ ks)
def Lib.ev_Mode___str__ (ks : List Nat) : EvS := (sSeq (sAsg (eIf (tBl (eBin isNP (eFl [2] ks "promise" (eVar 0)) (eCon .non))) (eLst aNil) (eLst (aCons (eFl [2] ks "promise" (eVar 0)) aNil))) (gNm 1))
  (sRet [0] (eRes (rMet "str" joinM (eCon (.str " ")) (aCons (eLst (aCons (eCon (.str "mode")) (aCons (eFl [2, 14] ks "name" (eVar 0)) (aStar (eVar 1) (aStar (eFl [2] ks "ends" (eVar 0)) aNil))))) aNil)))))
def Lib.F_Mode___str__ (ks : List Nat) : FSem := fDef 2 [0] (Lib.ev_Mode___str__ ks)
def Lib.ev_First___str__ (ks : List Nat) : EvS := (sRet [0] (eJs [(eCon (.str "first ")), (eFmt (eFl [1, 4] ks "place" (eVar 0)))]))
def Lib.F_First___str__ (ks : List Nat) : FSem := fDef 1 [0] (Lib.ev_First___str__ ks)
def Lib.ev_Row_read (ks : List Nat) : EvS := (sSeq (sAsg (eRes (rMet "str" splitM (eVar 1) (aCons (eCon (.str " ")) aNil))) (gNm 2))
  (sSeq (sTry 4 [0, 1] [20] [20] (sAsg (eRes (rCall 1 (Lib.F_row_in ks) [] (aCons (eVar 2) aNil))) (gNm 3)) (fun y => (fun _ => .bad)))
  (sSeq (sIf (tOrr (tBl (eBin isNP (eVar 3) (eCon .non))) (tBl (eBin neP (eRes (rAlt (rDun1 1 (Lib.F_First___str__ ks) okStr (eVar 3)) (rAlt (rDun1 2 (Lib.F_Mode___str__ ks) okStr (eVar 3)) (rAlt (rDun1 3 (Lib.F_Turn___str__ ks) okStr (eVar 3)) (rAlt (rDun1 4 (Lib.F_Lead___str__ ks) okStr (eVar 3)) (rDun1 5 (Lib.F_House___str__ ks) okStr (eVar 3))))))) (eVar 1)))) (sRaise 22 "at" (eCon (.int 0))) sSkip)
  (sRet [0, 1] (eVar 3)))))
def Lib.F_Row_read (ks : List Nat) : FSem := fDef 5 [0, 1] (Lib.ev_Row_read ks)
def Lib.ev_Row___eq__ (ks : List Nat) : EvS := (sRet [0, 1] (eAnd (eIsi (tbY [.ins 0, .ins 1, .ins 2, .ins 3, .ins 4, .ins 5]) ks (eVar 1)) (eBin eqP (eRes (rAlt (rDun1 1 (Lib.F_First___str__ ks) okStr (eVar 0)) (rAlt (rDun1 2 (Lib.F_Mode___str__ ks) okStr (eVar 0)) (rAlt (rDun1 3 (Lib.F_Turn___str__ ks) okStr (eVar 0)) (rAlt (rDun1 4 (Lib.F_Lead___str__ ks) okStr (eVar 0)) (rDun1 5 (Lib.F_House___str__ ks) okStr (eVar 0))))))) (eRes (rAlt (rDun1 1 (Lib.F_First___str__ ks) okStr (eVar 1)) (rAlt (rDun1 2 (Lib.F_Mode___str__ ks) okStr (eVar 1)) (rAlt (rDun1 3 (Lib.F_Turn___str__ ks) okStr (eVar 1)) (rAlt (rDun1 4 (Lib.F_Lead___str__ ks) okStr (eVar 1)) (rDun1 5 (Lib.F_House___str__ ks) okStr (eVar 1))))))))))
def Lib.F_Row___eq__ (ks : List Nat) : FSem := fDef 2 [0, 1] (Lib.ev_Row___eq__ ks)
def Lib.ev_h_sort (ks : List Nat) : EvS := (sSeq (sAsg (eLst (aCons (eIsi (tbY [.ins 1]) ks (eVar 0)) (aCons (eIsi (tbY [.ins 2]) ks (eVar 0)) (aCons (eIsi (tbY [.ins 3]) ks (eVar 0)) (aCons (eIsi (tbY [.ins 4]) ks (eVar 0)) aNil))))) (gNm 1))
  (sRet [0] (eRes (rBin addA (eVar 1) (eLst (aCons (eIsi (tbY [.ins 5]) ks (eVar 0)) aNil))))))
def Lib.F_h_sort (ks : List Nat) : FSem := fDef 2 [0] (Lib.ev_h_sort ks)
namespace Lk04
abbrev ks : List Nat := [0, 1, 2, 3, 4, 5]
def eb_law_1 : EvS := (sSeq (sAsg (eTup (aCons (eRes (rCall 1 Lib.F_h_row [] (aCons (eVar 1) aNil))) (aCons (eRes (rCall 1 Lib.F_h_row [] (aCons (eVar 1) aNil))) aNil))) (gTpL 2 (gsCons (gNm 4) (gsCons (gNm 5) gsNil))))
  (sSeq (sPar 6 7 (bCons (rTree (eRes (rCall 1 (Lib.F_h_made ks) [] (aCons (eVar 4) aNil)))) (bCons (rTree (eRes (rCall 1 Lib.F_h_text [] (aCons (eVar 4) aNil)))) bNil)))
  (sSeq (sAsg (eRes (rCls 0 2 (Lib.F_Row_read ks) [] (aCons (eVar 7) aNil))) (gNm 8))
  (sSeq (sIf (tOrr (tBl (eBin neP (eRes (rAlt (rDun1 1 (Lib.F_First___str__ ks) okStr (eVar 6)) (rAlt (rDun1 2 (Lib.F_Mode___str__ ks) okStr (eVar 6)) (rAlt (rDun1 3 (Lib.F_Turn___str__ ks) okStr (eVar 6)) (rAlt (rDun1 4 (Lib.F_Lead___str__ ks) okStr (eVar 6)) (rDun1 5 (Lib.F_House___str__ ks) okStr (eVar 6))))))) (eVar 7))) (tOrr (tBl (eBin neP (eRes (rAlt (rDun1 1 (Lib.F_First___str__ ks) okStr (eVar 8)) (rAlt (rDun1 2 (Lib.F_Mode___str__ ks) okStr (eVar 8)) (rAlt (rDun1 3 (Lib.F_Turn___str__ ks) okStr (eVar 8)) (rAlt (rDun1 4 (Lib.F_Lead___str__ ks) okStr (eVar 8)) (rDun1 5 (Lib.F_House___str__ ks) okStr (eVar 8))))))) (eVar 7))) (tTst (rDun2L [1, 2, 3, 4, 5] (Lib.F_Row___eq__ ks) gNot (eVar 8) (eVar 6))))) (sRet [0] (eCon (.bl false))) sSkip)
  (sSeq (sIf (tBl (eBin neP (eRes (rCall 1 Lib.F_h_text [] (aCons (eVar 5) aNil))) (eRes (rAlt (rDun1 1 (Lib.F_First___str__ ks) okStr (eRes (rCls 0 2 (Lib.F_Row_read ks) [] (aCons (eRes (rCall 1 Lib.F_h_text [] (aCons (eVar 5) aNil))) aNil)))) (rAlt (rDun1 2 (Lib.F_Mode___str__ ks) okStr (eRes (rCls 0 2 (Lib.F_Row_read ks) [] (aCons (eRes (rCall 1 Lib.F_h_text [] (aCons (eVar 5) aNil))) aNil)))) (rAlt (rDun1 3 (Lib.F_Turn___str__ ks) okStr (eRes (rCls 0 2 (Lib.F_Row_read ks) [] (aCons (eRes (rCall 1 Lib.F_h_text [] (aCons (eVar 5) aNil))) aNil)))) (rAlt (rDun1 4 (Lib.F_Lead___str__ ks) okStr (eRes (rCls 0 2 (Lib.F_Row_read ks) [] (aCons (eRes (rCall 1 Lib.F_h_text [] (aCons (eVar 5) aNil))) aNil)))) (rDun1 5 (Lib.F_House___str__ ks) okStr (eRes (rCls 0 2 (Lib.F_Row_read ks) [] (aCons (eRes (rCall 1 Lib.F_h_text [] (aCons (eVar 5) aNil))) aNil))))))))))) (sRet [0] (eCon (.bl false))) sSkip)
  (sSeq (sAsg (eOf (fComp (iAny [0] (eVar 2)) (gNm 10) tYesT (eBin eqP (eVar 10) (eBin ixP (eVar 4) (eCon (.int 0)))) [10])) (gNm 9))
  (sSeq (sIf (tOrr (tBl (eBin neP (eRes (rCall 1 (Lib.F_h_sort ks) [] (aCons (eVar 6) aNil))) (eVar 9))) (tBl (eBin neP (eRes (rCall 1 (Lib.F_h_sort ks) [] (aCons (eVar 8) aNil))) (eVar 9)))) (sRet [0] (eCon (.bl false))) sSkip)
  (sIf (tOrr (tBl (eBin neP (eBin eqP (eVar 4) (eVar 5)) (eBin eqP (eVar 7) (eRes (rCall 1 Lib.F_h_text [] (aCons (eVar 5) aNil)))))) (tBl (eBin neP (eRes (rDun2L [1, 2, 3, 4, 5] (Lib.F_Row___eq__ ks) gBl (eVar 6) (eRes (rCall 1 (Lib.F_h_made ks) [] (aCons (eVar 5) aNil))))) (eBin eqP (eVar 4) (eVar 5))))) (sRet [0] (eCon (.bl false))) sSkip))))))))
def ev_law : EvS := (sSeq (sOwn 1 (fRes (rCall 2 Lib.F_h_deal [] (aCons (eVar 0) (aCons (eCon (.int 0)) aNil)))))
  (sSeq (sAsg (eLst (aCons (eCon (.str "first")) (aCons (eCon (.str "mode")) (aCons (eCon (.str "turn")) (aCons (eCon (.str "lead")) (aCons (eCon (.str "house")) aNil)))))) (gNm 2))
  (sSeq (sFor (iRngA (aCons (eCon (.int 14)) aNil)) (gNm 3) eb_law_1)
  (sRet [0] (eCon (.bl true))))))
def F_law : FSem := fDef 11 [0] ev_law
end Lk04
end
section
/-! PK: plain rules for reckoning with the evaluators: comprehensions, joined and split texts, numbers as texts. -/
namespace TreeL
open PySem PySem.Spec PyProof.Rows L2
theorem lim_eq : LIM = 1000000 := rfl
/-! ### comprehensions over a mapped list -/
theorem wipe_back {env : En} {j : Nat} {x : Option Arg} (hj : env[j]? = some none) : wipeE (env.set j x) [j] = env := by
  simp only [wipeE]
  rw [List.set_set]
  apply List.ext_getElem?
  intro k
  rw [List.getElem?_set]
  by_cases e : j = k
  · subst e
    have := (List.getElem?_eq_some_iff.mp hj).1
    rw [if_pos rfl, if_pos this, hj]
  · rw [if_neg e]
theorem compX {α : Type} {et : EvT} {ea : EvE} {al : En → Bool} {env : En} {j : Nat} (h : α → PV) (p : α → Bool) (f : α → PV) (hal : al env = true) (hj : env[j]? = some none) : ∀ (xs : List α) (acc : List PV), acc.length + xs.length ≤ 1000000 →
    (∀ x ∈ xs, et (env.set j (some (.t (h x)))) = .ok (p x) (env.set j (some (.t (h x)))) ∧ (p x = true → ea (env.set j (some (.t (h x)))) = .ok (.tr (f x)) (env.set j (some (.t (h x)))))) → compL (gNm j) et ea [j] al (xs.map h) acc env = .ok (acc ++ (xs.filter p).map f) env
  | [], acc, _, _ => by simp [compL, hal]
  | x :: xs, acc, hl, hs => by
    rw [List.length_cons] at hl
    have hlt : acc.length < LIM := by unfold LIM; omega
    obtain ⟨s1, s2⟩ := hs x List.mem_cons_self
    cases hp : p x with
    | true =>
      have r := compX (et := et) (ea := ea) (al := al) h p f hal hj xs (acc ++ [f x]) (by rw [List.length_append, List.length_singleton]; omega) fun y hy => hs y (List.mem_cons_of_mem _ hy)
      rw [hp] at s1
      simp only [List.map_cons, compL, hal, gNm, s1, s2 hp, hlt, if_true, wipe_back hj, List.filter_cons, hp]
      refine Eq.trans r ?_
      simp
    | false =>
      have r := compX (et := et) (ea := ea) (al := al) h p f hal hj xs acc (by omega) fun y hy => hs y (List.mem_cons_of_mem _ hy)
      rw [hp] at s1
      simp only [List.map_cons, compL, hal, gNm, s1, if_true, if_false, Bool.false_eq_true, wipe_back hj, List.filter_cons, hp]
      exact r
/-- without a test -/
theorem compY {α : Type} {ea : EvE} {al : En → Bool} {env : En} {j : Nat} (h f : α → PV) (hal : al env = true) (hj : env[j]? = some none) (xs : List α) (hl : xs.length ≤ 1000000)
    (hs : ∀ x ∈ xs, ea (env.set j (some (.t (h x)))) = .ok (.tr (f x)) (env.set j (some (.t (h x))))) : compL (gNm j) tYesT ea [j] al (xs.map h) [] env = .ok (xs.map f) env := by
  have r := compX (et := tYesT) (ea := ea) (al := al) h (fun _ => true) f hal hj xs [] (by simpa using hl) fun x hx => ⟨rfl, fun _ => hs x hx⟩
  rw [r, List.filter_eq_self.mpr fun _ _ => rfl]
  rfl
/-- over the list itself -/
theorem compZ {et : EvT} {ea : EvE} {al : En → Bool} {env : En} {j : Nat} (p : PV → Bool) (f : PV → PV) (hal : al env = true) (hj : env[j]? = some none) (xs : List PV) (hl : xs.length ≤ 1000000)
    (hs : ∀ x ∈ xs, et (env.set j (some (.t x))) = .ok (p x) (env.set j (some (.t x))) ∧ (p x = true → ea (env.set j (some (.t x))) = .ok (.tr (f x)) (env.set j (some (.t x))))) : compL (gNm j) et ea [j] al xs [] env = .ok ((xs.filter p).map f) env := by
  have r := compX (et := et) (ea := ea) (al := al) id p f hal hj xs [] (by simpa using hl) hs
  rw [List.map_id] at r
  rw [r, List.nil_append]
theorem boolsP_map {α : Type} (p : α → Bool) : ∀ xs : List α, boolsP (xs.map fun x => PV.bl (p x)) = some (xs.map p)
  | [] => rfl
  | x :: xs => by simp [boolsP, boolsP_map p xs]
theorem allF_map {α : Type} (p : α → Bool) (xs : List α) : allF [.lst (xs.map fun x => PV.bl (p x))] = some (.t (.bl (xs.all p))) := by
  simp only [allF, boolsP_map, Option.map_some]
  rw [show (xs.map p).all id = xs.all p by rw [List.all_map]; rfl]
theorem anyF_map {α : Type} (p : α → Bool) (xs : List α) : anyF [.lst (xs.map fun x => PV.bl (p x))] = some (.t (.bl (xs.any p))) := by
  simp only [anyF, boolsP_map, Option.map_some]
  rw [show (xs.map p).any id = xs.any p by rw [List.any_map]; rfl]
theorem strsP_map (ss : List Str) : strsP (ss.map PV.str) = some ss := by
  induction ss with
  | nil => rfl
  | cons x r ih => simp [strsP, ih]
theorem trees_mapV {α : Type} (f : α → PV) : ∀ xs : List α, trees (xs.map fun x => Vl.tr (f x)) = some (xs.map f)
  | [] => rfl
  | x :: xs => by simp [trees_mapV f xs]
theorem trees_map0 : ∀ xs : List PV, trees (xs.map Vl.tr) = some xs
  | [] => rfl
  | x :: xs => by simp [trees_map0 xs]
theorem ix0 (x : PV) (xs : List PV) : ixP (.tup (x :: xs)) (.int 0) = some x := by
  have : atI (x :: xs) ((0 : Nat) : Int) = some x := atI_nat rfl
  exact this
theorem ix1 (x y : PV) (xs : List PV) : ixP (.tup (x :: y :: xs)) (.int 1) = some y := by
  have : atI (x :: y :: xs) ((1 : Nat) : Int) = some y := atI_nat rfl
  exact this
theorem ix2 (x y z : PV) (xs : List PV) : ixP (.tup (x :: y :: z :: xs)) (.int 2) = some z := by
  have : atI (x :: y :: z :: xs) ((2 : Nat) : Int) = some z := atI_nat rfl
  exact this
theorem lx0 (x : PV) (xs : List PV) : ixP (.lst (x :: xs)) (.int 0) = some x := by
  have : atI (x :: xs) ((0 : Nat) : Int) = some x := atI_nat rfl
  exact this
theorem lx1 (x y : PV) (xs : List PV) : ixP (.lst (x :: y :: xs)) (.int 1) = some y := by
  have : atI (x :: y :: xs) ((1 : Nat) : Int) = some y := atI_nat rfl
  exact this
theorem lx2 (x y z : PV) (xs : List PV) : ixP (.lst (x :: y :: z :: xs)) (.int 2) = some z := by
  have : atI (x :: y :: z :: xs) ((2 : Nat) : Int) = some z := atI_nat rfl
  exact this
/-! ### texts -/
theorem str_ext {x y : Str} (h : TL.tl x = TL.tl y) : x = y := by
  obtain ⟨⟨a⟩⟩ := x
  obtain ⟨⟨b⟩⟩ := y
  simp [TL.tl] at h
  subst h; rfl
theorem sum_le {xs : List Str} {k : Nat} (h : ∀ x ∈ xs, x.length ≤ k) : (xs.map (·.length)).sum ≤ xs.length * k := by
  induction xs with
  | nil => simp
  | cons x r ih =>
    have a := h x List.mem_cons_self
    have b := ih fun y hy => h y (List.mem_cons_of_mem _ hy)
    simp only [List.map_cons, List.sum_cons, List.length_cons, Nat.succ_mul]
    omega
theorem join_ok {a : Str} {ss : List Str} {k : Nat} (h : ∀ s ∈ ss, s.length ≤ k) (hk : ss.length * k + ss.length * a.length ≤ 1000000) : joinM (.str a) [.lst (ss.map .str)] = some (.t (.str (Txt.join a ss))) := by
  have := sum_le h
  simp only [joinM, strsP_map, Option.bind_some]
  rw [if_pos (by unfold LIM; omega)]
theorem join_okT {a : Str} {ss : List Str} {k : Nat} (h : ∀ s ∈ ss, s.length ≤ k) (hk : ss.length * k + ss.length * a.length ≤ 1000000) : joinM (.str a) [.tup (ss.map .str)] = some (.t (.str (Txt.join a ss))) := by
  have := sum_le h
  simp only [joinM, strsP_map, Option.bind_some]
  rw [if_pos (by unfold LIM; omega)]
theorem split_ok {a b : Str} (hb : (b.length == 0) = false) (ha : a.length ≤ 1000000) {ss : List Str} (h : Txt.split a b = ss) : splitM (.str a) [.str b] = some (.ow (.lst (ss.map .str))) := by
  simp only [splitM]
  rw [if_pos ⟨hb, by unfold LIM; exact ha⟩, h]
theorem joinL_lenS (S : List Nat) : ∀ ps : List (List Nat), (TL.joinL S ps).length ≤ (ps.map List.length).sum + ps.length * S.length
  | [] => by simp [TL.joinL]
  | [p] => by simp [TL.joinL]
  | p :: q :: r => by
    have := joinL_lenS S (q :: r)
    simp only [TL.joinL, List.length_append, List.map_cons, List.sum_cons, List.length_cons] at this ⊢
    have e : (r.length + 1 + 1) * S.length = (r.length + 1) * S.length + S.length := Nat.succ_mul _ _
    omega
theorem tl_joinS (a : Str) (ss : List Str) : TL.tl (Txt.join a ss) = TL.joinL (TL.tl a) (ss.map TL.tl) := by rw [TL.join_eq, TL.tl_join]
theorem join_lenS {a : Str} {ss : List Str} {k : Nat} (h : ∀ s ∈ ss, s.length ≤ k) : (Txt.join a ss).length ≤ ss.length * k + ss.length * a.length := by
  have h1 := joinL_lenS (TL.tl a) (ss.map TL.tl)
  rw [← tl_joinS, ← TL.len_tl, List.length_map, ← TL.len_tl, List.map_map] at h1
  have h2 := sum_le h
  have e : (ss.map (List.length ∘ TL.tl)) = ss.map (·.length) := by
    apply List.map_congr_left
    intro s _
    exact (TL.len_tl s).symm
  rw [e] at h1
  omega
theorem join_memS {x : Nat} {a : Str} {ss : List Str} (h : x ∈ TL.tl (Txt.join a ss)) : x ∈ TL.tl a ∨ ∃ s ∈ ss, x ∈ TL.tl s := by
  rw [tl_joinS] at h
  rcases joinL_mem h with z | ⟨p, hp, z⟩
  · exact .inl z
  · obtain ⟨s, hs, rfl⟩ := List.mem_map.mp hp
    exact .inr ⟨s, hs, z⟩
/-! ### numbers as texts -/
def numS (i : Int) : Str := Str.ofString (toString i)
theorem tl_numS {i : Int} (h0 : 0 ≤ i) : TL.tl (numS i) = TL.numL i.toNat := by
  obtain ⟨k, rfl⟩ : ∃ k : Nat, i = k := ⟨i.toNat, by omega⟩
  unfold numS
  rw [TL.tl_num]
  simp
theorem numS_len {i : Int} {k : Nat} (hk : 0 < k) (h0 : 0 ≤ i) (h1 : i < 10 ^ k) : (numS i).length ≤ k := by
  have e : i.toNat < 10 ^ k := by
    have : (i.toNat : Int) < ((10 ^ k : Nat) : Int) := by rw [Int.toNat_of_nonneg h0]; exact_mod_cast h1
    exact_mod_cast this
  have := TL.numL_len (n := i.toNat) (k := k) hk e
  rw [← tl_numS h0] at this
  rw [TL.len_tl]
  exact this
theorem numS_digits {i : Int} (h0 : 0 ≤ i) : ∀ n ∈ TL.tl (numS i), 48 ≤ n ∧ n ≤ 57 := fun n hn => by
  rw [tl_numS h0] at hn
  exact TL.numL_digits i.toNat n hn
theorem numL_head : ∀ {n : Nat}, 0 < n → ∃ c r, TL.numL n = c :: r ∧ c ≠ 48 := by
  intro n
  induction n using Nat.strongRecOn with
  | ind n ih =>
    intro h
    by_cases h1 : n < 10
    · exact ⟨48 + n, [], TL.numL_lt h1, by omega⟩
    · obtain ⟨c, r, e, hc⟩ := ih (n / 10) (by omega) (by omega)
      exact ⟨c, r ++ [48 + n % 10], by rw [TL.numL_step (by omega), e]; rfl, hc⟩
theorem str_num {i : Int} (h0 : 0 ≤ i) (h1 : i < 10 ^ 100) : strF [.int i] = some (.t (.str (numS i))) := by
  simp only [strF, numS, if_pos (And.intro h0 h1)]
/-! ### one sign in a text -/
theorem in_sign (n : Nat) (y : Str) : inP (.str ⟨#[n]⟩) (.str y) = some (.bl (decide (n ∈ TL.tl y))) := rfl
/-! ### what may be shown -/
def Sh (k : Nat) (x : Str) : Prop := x.length ≤ k ∧ ∀ c ∈ TL.tl x, c < 0x110000
theorem Sh.mono {k m : Nat} {x : Str} (h : Sh k x) (l : k ≤ m) : Sh m x := ⟨Nat.le_trans h.1 l, h.2⟩
theorem sh_by {k : Nat} {x : Str} (h : (decide (x.length ≤ k) && (TL.tl x).all fun c => decide (c < 0x110000)) = true) : Sh k x := by
  rw [Bool.and_eq_true] at h
  exact ⟨of_decide_eq_true h.1, fun c hc => of_decide_eq_true (List.all_eq_true.mp h.2 c hc)⟩
theorem tup_sh {ts : List Str} {k : Nat} (h : ∀ x ∈ ts, Sh k x) : Sh (ts.length * k + 2 * ts.length + 3) (tupleText ts) := by
  refine ⟨?_, fun c hc => ?_⟩
  · have a := tupleText_len_le ts
    have b := sum_le fun x hx => (h x hx).1
    omega
  · have w : ∀ s : Str, ((TL.tl s).all fun c => decide (c < 0x110000)) = true → ∀ c ∈ TL.tl s, c < 0x110000 := fun s hs c hc => of_decide_eq_true (List.all_eq_true.mp hs c hc)
    unfold tupleText at hc
    rw [TL.tl_append, TL.tl_append, TL.tl_join] at hc
    simp only [List.mem_append] at hc
    rcases hc with (z | z) | z
    · exact w _ (by decide +kernel) c z
    · rcases joinL_mem z with z | ⟨p, hp, z⟩
      · exact w _ (by decide +kernel) c z
      · obtain ⟨x, hx, rfl⟩ := List.mem_map.mp hp
        exact (h x hx).2 c z
    · split at z
      · exact w _ (by decide +kernel) c z
      · exact w _ (by decide +kernel) c z
end TreeL
end
section
/-! PWv: what the defs of weavings and of their helpers answer, for any data; plain Lean. -/
namespace Pw
open PySem PySem.Spec PyProof.Rows L2 TreeL
theorem draw_eq : Lib.F_h_draw = A.F_draw := rfl
theorem deal_eq : Lib.F_h_deal = A.F_deal := rfl
theorem mixed_eq : Lib.F_h_mixed = A.F_mixed := rfl
theorem pick_eq : Lib.F_h_pick = A.F_pick := rfl
/-! ### names -/
def alphaL : List Nat := TL.tl "abcdefghijklmnopqrstuvwxyz"
def barL : List PySem.Str := ["and", "any", "do", "if", "none", "not", "same", "send", "then", "time", "to", "wipe", "work"]
def barB (s : PySem.Str) : Bool := barL.any fun z => z == s
def nmS (s : PySem.Str) : Bool := decide (1 ≤ s.length ∧ s.length ≤ 4) && !barB s && (TL.tl s).all fun n => decide (n ∈ alphaL)
def nmB : PV → Bool
  | .str s => nmS s
  | _ => false
theorem peq_str (a b : PySem.Str) : peq (.str a) (.str b) = (a == b) := rfl
theorem datL_str (n : Nat) (xs : List PySem.Str) : datL n (xs.map .str) = true := by
  rw [datL_all, List.all_eq_true]
  intro t ht
  obtain ⟨w, _, rfl⟩ := List.mem_map.mp ht
  cases n <;> rfl
theorem in_strs (s : PySem.Str) (bs : List PySem.Str) : inP (.str s) (.tup (bs.map .str)) = some (.bl (bs.any fun z => z == s)) := by
  have d1 : dat 63 (.str s) = true := rfl
  simp only [inP, inB, d1, datL_str, Bool.and_self, if_true, Option.map_some, List.any_map]
  rfl
theorem in_strsL (s : PySem.Str) (bs : List PySem.Str) : inP (.str s) (.lst (bs.map .str)) = some (.bl (bs.any fun z => z == s)) := by
  have d1 : dat 63 (.str s) = true := rfl
  simp only [inP, inB, d1, datL_str, Bool.and_self, if_true, Option.map_some, List.any_map]
  rfl
theorem signs_tl (s : PySem.Str) : TreeL.signs s = (TL.tl s).map fun n => PV.str ⟨#[n]⟩ := rfl
theorem tl_len (s : PySem.Str) : (TL.tl s).length = s.length := (TL.len_tl s).symm
theorem in_alpha (n : Nat) : inP (.str ⟨#[n]⟩) (.str "abcdefghijklmnopqrstuvwxyz") = some (.bl (decide (n ∈ alphaL))) := rfl
theorem is_name_str (ks : List Nat) (s : PySem.Str) : Lib.F_is_name ks [.t (.str s)] = .ret (.t (.bl (nmS s))) [.t (.str s)] := by
  have hb := in_strs s barL
  simp only [barL, List.map_cons, List.map_nil] at hb
  rw [show (["and", "any", "do", "if", "none", "not", "same", "send", "then", "time", "to", "wipe", "work"] : List PySem.Str) = barL from rfl] at hb
  rw [show (barL.any fun z => z == s) = barB s from rfl] at hb
  by_cases h1 : 1 ≤ s.length
  · by_cases h4 : s.length ≤ 4
    · have g1 : (1 : Int) ≤ (s.length : Int) := by omega
      have g4 : ((s.length : Nat) : Int) ≤ 4 := by omega
      cases hq : barB s with
      | true =>
        rw [hq] at hb
        simp [Lib.F_is_name, fDef, Lib.ev_is_name, lenF, g1, g4, hb, nmS, h1, h4, hq]
      | false =>
        rw [hq] at hb
        have c1 := compY (ea := eBin inP (eVar 1) (eCon (.str "abcdefghijklmnopqrstuvwxyz"))) (al := alive (.tr .non) (TreeL.signs s)) (env := [some (.t (.str s)), none]) (j := 1) (fun n => PV.str ⟨#[n]⟩) (fun n => PV.bl (decide (n ∈ alphaL))) rfl rfl (TL.tl s) (by rw [tl_len]; omega) (fun n _ => by simp [in_alpha])
        rw [← signs_tl] at c1
        simp [Lib.F_is_name, fDef, Lib.ev_is_name, lenF, g1, g4, hb, nmS, h1, h4, hq, c1, allF_map]
    · have g4 : ¬ ((s.length : Nat) : Int) ≤ 4 := by omega
      have g1 : (1 : Int) ≤ (s.length : Int) := by omega
      simp [Lib.F_is_name, fDef, Lib.ev_is_name, lenF, g1, g4, nmS, h4]
  · have g1 : ¬ (1 : Int) ≤ (s.length : Int) := by omega
    simp [Lib.F_is_name, fDef, Lib.ev_is_name, lenF, g1, nmS, h1]
theorem is_name_dat {ks : List Nat} {n : Nat} {v : PV} (h : dat n v = true) : Lib.F_is_name ks [.t v] = .ret (.t (.bl (nmB v))) [.t v] := by
  cases v with
  | str s => exact is_name_str ks s
  | non => rfl
  | bl b => rfl
  | int i => rfl
  | lst xs => rfl
  | tup xs => rfl
  | _ => cases n <;> cases h
def seqB : PV → Bool
  | .lst _ => true
  | .tup _ => true
  | _ => false
def items : PV → List PV
  | .lst xs => xs
  | .tup xs => xs
  | _ => []
theorem items_dat {n : Nat} {v : PV} (h : dat (n + 1) v = true) : ∀ x ∈ items v, dat n x = true := by
  cases v with
  | lst xs => rw [dat, datL_all, List.all_eq_true] at h; exact h
  | tup xs => rw [dat, datL_all, List.all_eq_true] at h; exact h
  | _ => intro x hx; cases hx
theorem is_seq {ks : List Nat} {n : Nat} {v : PV} (h : dat n v = true) : Lib.F_is_sequence ks [.t v] = .ret (.t (.bl (seqB v))) [.t v] := by
  cases v with
  | str s => rfl
  | non => rfl
  | bl b => rfl
  | int i => rfl
  | lst xs => rfl
  | tup xs => rfl
  | _ => cases n <;> cases h
def namesB (v : PV) : Bool := seqB v && (items v).all nmB
def firstsB (v : PV) : Bool := namesB v && decide (0 < (items v).length)
theorem are_names {ks : List Nat} {n : Nat} {v : PV} (h : dat (n + 1) v = true) (hl : (items v).length ≤ 1000000) : Lib.F_are_names ks [.t v] = .ret (.t (.bl (namesB v))) [.t v] := by
  have sq := is_seq (ks := ks) h
  have hd := items_dat h
  have c1 := compY (ea := eRes (rCall 1 (Lib.F_is_name ks) [] (aCons (eVar 1) aNil))) (al := alive (.tr .non) (items v)) (env := [some (.t v), none]) (j := 1) id (fun x => PV.bl (nmB x)) rfl rfl (items v) hl (fun x hx => by simp [is_name_dat (hd x hx)])
  rw [List.map_id] at c1
  cases v with
  | lst xs => simp only [items] at c1; simp [Lib.F_are_names, fDef, Lib.ev_are_names, sq, namesB, seqB, items, c1, allF_map]
  | tup xs => simp only [items] at c1; simp [Lib.F_are_names, fDef, Lib.ev_are_names, sq, namesB, seqB, items, c1, allF_map]
  | _ => simp [Lib.F_are_names, fDef, Lib.ev_are_names, sq, namesB, seqB]
theorem are_firsts {ks : List Nat} {n : Nat} {v : PV} (h : dat (n + 1) v = true) (hl : (items v).length ≤ 1000000) : Lib.F_are_firsts ks [.t v] = .ret (.t (.bl (firstsB v))) [.t v] := by
  have nm := are_names (ks := ks) h hl
  cases hq : namesB v with
  | false =>
    rw [hq] at nm
    simp [Lib.F_are_firsts, fDef, Lib.ev_are_firsts, nm, firstsB, hq]
  | true =>
    have sq : seqB v = true := by unfold namesB at hq; rw [Bool.and_eq_true] at hq; exact hq.1
    rw [hq] at nm
    cases v with
    | lst xs => simp [Lib.F_are_firsts, fDef, Lib.ev_are_firsts, nm, firstsB, hq, lenF, items]; exact decide_eq_decide.mpr Iff.rfl
    | tup xs => simp [Lib.F_are_firsts, fDef, Lib.ev_are_firsts, nm, firstsB, hq, lenF, items]; exact decide_eq_decide.mpr Iff.rfl
    | _ => cases sq
/-! ### events -/
def intB : PV → Bool
  | .int _ => true
  | _ => false
def stepB (m : Int) : PV → Bool
  | .int i => decide (0 ≤ i ∧ i < m)
  | _ => false
def natB : PV → Bool
  | .int i => decide (0 ≤ i)
  | _ => false
theorem is_integer {ks : List Nat} {n : Nat} {v : PV} (h : dat n v = true) : Lib.F_is_integer ks [.t v] = .ret (.t (.bl (intB v))) [.t v] := by
  cases v with
  | str s => rfl
  | non => rfl
  | bl b => rfl
  | int i => rfl
  | lst xs => rfl
  | tup xs => rfl
  | _ => cases n <;> cases h
theorem is_step {ks : List Nat} {n : Nat} {v : PV} {m : Int} (h : dat n v = true) : Lib.F_is_step ks [.t v, .t (.int m)] = .ret (.t (.bl (stepB m v))) [.t v, .t (.int m)] := by
  have hi := is_integer (ks := ks) h
  cases v with
  | int i =>
    by_cases h0 : 0 ≤ i <;> by_cases h1 : i < m <;> simp [Lib.F_is_step, fDef, Lib.ev_is_step, hi, intB, stepB, h0, h1]
  | str s => simp [Lib.F_is_step, fDef, Lib.ev_is_step, hi, intB, stepB]
  | non => simp [Lib.F_is_step, fDef, Lib.ev_is_step, hi, intB, stepB]
  | bl b => simp [Lib.F_is_step, fDef, Lib.ev_is_step, hi, intB, stepB]
  | lst xs => simp [Lib.F_is_step, fDef, Lib.ev_is_step, hi, intB, stepB]
  | tup xs => simp [Lib.F_is_step, fDef, Lib.ev_is_step, hi, intB, stepB]
  | _ => cases n <;> cases h
def doL : List PySem.Str := ["time", "build", "leave", "work", "wipe"]
def saL : List PySem.Str := ["back", "there"]
def doB (s : PySem.Str) : Bool := doL.any fun z => z == s
def saB (s : PySem.Str) : Bool := saL.any fun z => z == s
def evB (m : Int) : PV → Bool
  | .tup [.str w, x] => (doB w && stepB m x) || ((w == ("turn" : PySem.Str)) && natB x)
  | .tup [.str w, x, y] => saB w && stepB m x && nmB y
  | _ => false
theorem do_in (s : PySem.Str) : inP (.str s) (.tup [.str "time", .str "build", .str "leave", .str "work", .str "wipe"]) = some (.bl (doB s)) := in_strs s doL
theorem sa_in (s : PySem.Str) : inP (.str s) (.tup [.str "back", .str "there"]) = some (.bl (saB s)) := in_strs s saL
theorem eq_s (a b : PySem.Str) : eqP (.str a) (.str b) = some (.bl (a == b)) := rfl
theorem ne_s (a b : PySem.Str) : neP (.str a) (.str b) = some (.bl (!(a == b))) := rfl
theorem eq_i (a b : Int) : eqP (.int a) (.int b) = some (.bl (a == b)) := rfl
theorem ne_i (a b : Int) : neP (.int a) (.int b) = some (.bl (!(a == b))) := rfl
theorem doB_turn {w : PySem.Str} (h : doB w = true) : (w == ("turn" : PySem.Str)) = false := by
  cases q : (w == ("turn" : PySem.Str)) with
  | false => rfl
  | true =>
    rw [eq_of_beq q] at h
    exact absurd h (by decide +kernel)
theorem len0 (n : Nat) (h : 0 < n) : ((n : Int) == 0) = false := by
  cases q : ((n : Int) == 0) with
  | false => rfl
  | true => have := eq_of_beq q; omega
theorem is_event {ks : List Nat} {n : Nat} {v : PV} {m : Int} (h : dat (n + 1) v = true) : Lib.F_is_event ks [.t v, .t (.int m)] = .ret (.t (.bl (evB m v))) [.t v, .t (.int m)] := by
  cases v with
  | str s => rfl
  | non => rfl
  | bl b => rfl
  | int i => rfl
  | lst xs => rfl
  | tup xs =>
    rw [dat, datL_all, List.all_eq_true] at h
    match xs, h with
    | [], _ => rfl
    | .non :: _, _ => simp [Lib.F_is_event, fDef, Lib.ev_is_event, lenF, eq_i, ix0, evB]
    | .bl _ :: _, _ => simp [Lib.F_is_event, fDef, Lib.ev_is_event, lenF, eq_i, ix0, evB]
    | .int _ :: _, _ => simp [Lib.F_is_event, fDef, Lib.ev_is_event, lenF, eq_i, ix0, evB]
    | .lst _ :: _, _ => simp [Lib.F_is_event, fDef, Lib.ev_is_event, lenF, eq_i, ix0, evB]
    | .tup _ :: _, _ => simp [Lib.F_is_event, fDef, Lib.ev_is_event, lenF, eq_i, ix0, evB]
    | .dct _ _ :: _, h => exact absurd (h _ List.mem_cons_self) (by cases n <;> simp [dat])
    | .ins _ _ :: _, h => exact absurd (h _ List.mem_cons_self) (by cases n <;> simp [dat])
    | .scr _ :: _, h => exact absurd (h _ List.mem_cons_self) (by cases n <;> simp [dat])
    | .cls _ :: _, h => exact absurd (h _ List.mem_cons_self) (by cases n <;> simp [dat])
    | [.str w], _ => simp [Lib.F_is_event, fDef, Lib.ev_is_event, lenF, eq_i, ix0, evB, sMatch, cSeq, cNil, seqP]
    | [.str w, x], h =>
      have st := is_step (ks := ks) (m := m) (h x (by simp))
      have it := is_integer (ks := ks) (h x (by simp))
      cases hd : doB w with
      | true =>
        have ht := doB_turn hd
        simp [Lib.F_is_event, fDef, Lib.ev_is_event, lenF, eq_i, ix0, evB, sMatch, cSeq, cNil, seqP, setsE, do_in, hd, st, ht]
      | false =>
        cases ht : (w == ("turn" : PySem.Str)) with
        | false => simp [Lib.F_is_event, fDef, Lib.ev_is_event, lenF, eq_i, ix0, evB, sMatch, cSeq, cNil, seqP, setsE, do_in, hd, eq_s, ht]
        | true =>
          cases x with
          | int i => simp [Lib.F_is_event, fDef, Lib.ev_is_event, lenF, eq_i, ix0, evB, sMatch, cSeq, cNil, seqP, setsE, do_in, hd, eq_s, ht, it, intB, natB]
          | _ => simp [Lib.F_is_event, fDef, Lib.ev_is_event, lenF, eq_i, ix0, evB, sMatch, cSeq, cNil, seqP, setsE, do_in, hd, eq_s, ht, it, intB, natB]
    | [.str w, x, y], h =>
      have st := is_step (ks := ks) (m := m) (h x (by simp))
      have nm := is_name_dat (ks := ks) (h y (by simp))
      cases hd : saB w with
      | true =>
        cases hs : stepB m x with
        | true =>
          rw [hs] at st
          simp [Lib.F_is_event, fDef, Lib.ev_is_event, lenF, eq_i, ix0, evB, sMatch, cSeq, cNil, seqP, setsE, sa_in, hd, st, nm, hs]
        | false =>
          rw [hs] at st
          simp [Lib.F_is_event, fDef, Lib.ev_is_event, lenF, eq_i, ix0, evB, sMatch, cSeq, cNil, seqP, setsE, sa_in, hd, st, hs]
      | false => simp [Lib.F_is_event, fDef, Lib.ev_is_event, lenF, eq_i, ix0, evB, sMatch, cSeq, cNil, seqP, setsE, sa_in, hd]
    | .str w :: x :: y :: z :: r, _ =>
      have e0 : ¬ ((r.length : Int) + 1 + 1 + 1 + 1 = 0) := by omega
      simp [Lib.F_is_event, fDef, Lib.ev_is_event, lenF, eq_i, ix0, evB, sMatch, cSeq, cNil, seqP, e0]
  | _ => cases h
/-! ### a weaving made -/
def badAt (m : Int) : List PV → Nat → Option Nat
  | [], _ => none
  | x :: xs, n => if evB m x then badAt m xs (n + 1) else some n
def dueV (v w : PV) : Option Int := if firstsB v && seqB w then (badAt (items v).length (items w) 0).map fun (k : Nat) => (k : Int) else some 0
def wFs (v w : PV) : List (PySem.Str × PV) := [("firsts", .tup (items v)), ("events", .tup (items w))]
theorem put1 (t : PV) : putFP (Str.ofString "firsts") t [] = [(Str.ofString "firsts", t)] := rfl
theorem put2 (t u : PV) : putFP (Str.ofString "events") u [(Str.ofString "firsts", t)] = [(Str.ofString "firsts", t), (Str.ofString "events", u)] := by
  have h : ¬ (Str.ofString "firsts" = Str.ofString "events") := by decide +kernel
  simp [putFP, h]
theorem init_loop {ks : List Nat} {m : Nat} {a b d : TreeL.Arg} {v : PV} (hv : lenF [v] = some (.t (.int m))) {n : Nat} : ∀ (evs : List PV) (k : Nat) (x y : Option TreeL.Arg), (∀ t ∈ evs, dat (n + 1) t = true) → ∃ x' y', loopF (gTpL 2 (gsCons (gNm 3) (gsCons (gNm 4) gsNil))) (Lib.eb_Weaving___init___1 ks) (fun _ => true) (enumL k evs) [some a, some (.t v), some d, x, y] =
    (match badAt m evs k with
    | none => .nx [some a, some (.t v), some d, x', y']
    | some k => .exc ⟨23, [("at", .int (k : Int))]⟩ [some a, some (.t v), some d, x', y'])
  | [], k, x, y, _ => ⟨x, y, by simp [enumL, loopF, badAt]⟩
  | t :: ts, k, x, y, h => by
    have ok := is_event (ks := ks) (m := m) (h t List.mem_cons_self)
    cases hq : evB m t with
    | true =>
      obtain ⟨x', y', r⟩ := init_loop (ks := ks) (a := a) (b := b) (d := d) hv ts (k + 1) (some (.t (.int k))) (some (.t t)) fun t ht => h t (List.mem_cons_of_mem _ ht)
      refine ⟨x', y', ?_⟩
      rw [hq] at ok
      rw [badAt, hq, if_pos rfl, ← r]
      simp [enumL, loopF, Lib.eb_Weaving___init___1, hv, ok]
    | false =>
      rw [hq] at ok
      refine ⟨some (.t (.int k)), some (.t t), ?_⟩
      rw [badAt, hq]
      simp [enumL, loopF, Lib.eb_Weaving___init___1, hv, ok]
theorem init_v {ks : List Nat} {n : Nat} {v w : PV} (h : dat (n + 1) v = true) (g : dat (n + 2) w = true) (hl : (items v).length ≤ 1000000) :
    Lib.F_Weaving___init__ ks [.ow (.ins 6 []), .t v, .t w] = (match dueV v w with
    | none => .ret (.t .non) [.ow (.ins 6 (wFs v w)), .t v, .t w]
    | some k => .exc ⟨23, [("at", .int k)]⟩ [.ow (.ins 6 []), .t v, .t w]) := by
  have fo := are_firsts (ks := ks) h hl
  have sq := is_seq (ks := ks) g
  cases hf : firstsB v with
  | false =>
    rw [hf] at fo
    simp [Lib.F_Weaving___init__, fDef, Lib.ev_Weaving___init__, fo, dueV, hf]
  | true =>
    rw [hf] at fo
    cases hs : seqB w with
    | false =>
      rw [hs] at sq
      simp [Lib.F_Weaving___init__, fDef, Lib.ev_Weaving___init__, fo, sq, dueV, hf, hs]
    | true =>
      rw [hs] at sq
      have sv : seqB v = true := by unfold firstsB namesB at hf; simp only [Bool.and_eq_true] at hf; exact hf.1.1
      have lv : lenF [v] = some (.t (.int (items v).length)) := by cases v <;> first | rfl | cases sv
      have tv : tupleF [v] = some (.t (.tup (items v))) := by cases v <;> first | rfl | cases sv
      have tw : tupleF [w] = some (.t (.tup (items w))) := by cases w <;> first | rfl | cases hs
      obtain ⟨x', y', r⟩ := init_loop (ks := ks) (a := .ow (.ins 6 [])) (b := .t v) (d := .t w) lv (items w) 0 none none (items_dat g)
      have a1 : alive (.tr .non) (enumL 0 (items w)) = fun _ => true := rfl
      have ie : iEnumS (aCons (eVar 2) aNil) [some (.ow (.ins 6 [])), some (.t v), some (.t w), none, none] = .ok ⟨enumL 0 (items w), .tr .non⟩ [some (.ow (.ins 6 [])), some (.t v), some (.t w), none, none] := by cases w <;> first | rfl | cases hs
      cases hb : badAt (items v).length (items w) 0 with
      | none =>
        rw [hb] at r
        simp [-iEnumS, Lib.F_Weaving___init__, fDef, Lib.ev_Weaving___init__, fo, sq, dueV, hf, hs, hb, sFor, ie, a1, r, tv, tw, sFldT, wFs, put1, put2]
      | some k =>
        rw [hb] at r
        simp [-iEnumS, Lib.F_Weaving___init__, fDef, Lib.ev_Weaving___init__, fo, sq, dueV, hf, hs, hb, sFor, ie, a1, r]
end Pw
end
section
/-! PWd: what the helpers of the laws of weavings draw. -/
namespace Pw
open PySem PySem.Spec PyProof.Rows L2 TreeL
@[local simp] theorem LIM_eq : LIM = 1000000 := rfl
def pool : List PySem.Str := ["new", "off", "yes", "a", "made", "gone", "some", "all", "at", "mark", "make", "lead", "turn", "free", "zzzz"]
def IsName (t : PV) : Prop := ∃ w ∈ pool, t = .str w
theorem IsName.dat {t : PV} (h : IsName t) (n : Nat) : dat n t = true := by
  obtain ⟨w, _, rfl⟩ := h
  cases n <;> rfl
theorem pool_spec : Lib.F_h_pool [] = .ret (.t (.lst (pool.map .str))) [] := by
  simp [Lib.F_h_pool, fDef, Lib.ev_h_pool, addA, pool, LIM]
theorem names_spec {n : Int} {o : OS} (h : IsBox n o) (hn : n ≤ 2 ^ 39) : ∃ ys o', Lib.F_h_names [.ow o, .t (.int 8)] = .ret (.t (.lst ys)) [.ow o', .t (.int 8)] ∧ (∀ y ∈ ys, IsName y) ∧ ys.length = 8 ∧ IsBox (n + 15) o' := by
  obtain ⟨zs, o', q, hp, hb⟩ := A.mixed_spec (xs := pool.map .str) h (by simp [pool]; omega) (by simp [pool]) (fun x hx => by obtain ⟨w, hw, rfl⟩ := List.mem_map.mp hx; rfl)
  have hl : zs.length = 15 := by rw [hp.length_eq]; rfl
  have hc : cutP zs none (some 8) = zs.take 8 := by
    unfold cutP
    simp [HT.sIx, hl]
  refine ⟨zs.take 8, o', ?_, fun y hy => ?_, by rw [List.length_take, hl]; rfl, by simpa [pool] using hb⟩
  · simp [Lib.F_h_names, fDef, Lib.ev_h_names, pool_spec, mixed_eq, q, slA, hc]
  · have := hp.subset (List.mem_of_mem_take hy)
    obtain ⟨w, hw, rfl⟩ := List.mem_map.mp this
    exact ⟨w, hw, rfl⟩
def doW : List PySem.Str := ["time", "build", "leave", "work", "wipe"]
def saW : List PySem.Str := ["there", "back"]
/-- an event of so many steps -/
inductive IsEv (many : Int) : PV → Prop where
  | say {w l : PySem.Str} {s : Int} (h : w ∈ saW) (h0 : 0 ≤ s) (h1 : s < many) (hl : l ∈ pool) : IsEv many (.tup [.str w, .int s, .str l])
  | turn {s : Int} (h0 : 0 ≤ s) (h1 : s < 10000) : IsEv many (.tup [.str "turn", .int s])
  | act {w : PySem.Str} {s : Int} (h : w ∈ doW) (h0 : 0 ≤ s) (h1 : s < many) : IsEv many (.tup [.str w, .int s])
theorem event_spec {n m : Int} {o : OS} {ls : List PV} (h : IsBox n o) (hn : n ≤ 2 ^ 39) (h0 : 0 < m) (hm : m ≤ 4) (hl : 0 < ls.length) (hl2 : ls.length < 100) (hs : ∀ l ∈ ls, IsName l) :
    ∃ t o', Lib.F_h_event [.ow o, .t (.int m), .t (.lst ls)] = .ret (.t t) [.ow o', .t (.int m), .t (.lst ls)] ∧ IsEv m t ∧ IsBox (n + 3) o' := by
  obtain ⟨f, o1, q1, f0, f1, b1⟩ := A.draw_spec (m := 8) h (by omega) (by decide) (by decide)
  obtain ⟨s, o2, q2, s0, s1, b2⟩ := A.draw_spec (m := m) b1 (by omega) h0 (by omega)
  by_cases c1 : f < 2
  · obtain ⟨x, o3, q3, hx, b3⟩ := A.pick_spec (xs := ls) b2 (by omega) hl (by omega)
    obtain ⟨l, hl', rfl⟩ := hs x hx
    have hf : f = 0 ∨ f = 1 := by omega
    rcases hf with rfl | rfl
    · refine ⟨_, o3, ?_, .say (w := "there") (by simp [saW]) s0 s1 hl', b3.mono (by omega)⟩
      simp [Lib.F_h_event, fDef, Lib.ev_h_event, draw_eq, pick_eq, q1, q2, q3, ixP, atI, ixN, LIM]
    · refine ⟨_, o3, ?_, .say (w := "back") (by simp [saW]) s0 s1 hl', b3.mono (by omega)⟩
      simp [Lib.F_h_event, fDef, Lib.ev_h_event, draw_eq, pick_eq, q1, q2, q3, ixP, atI, ixN, LIM]
  · by_cases c2 : f = 2
    · obtain ⟨t, o3, q3, t0, t1, b3⟩ := A.draw_spec (m := 12) b2 (by omega) (by decide) (by decide)
      refine ⟨_, o3, ?_, .turn (s := t) t0 (by omega), b3.mono (by omega)⟩
      subst c2
      simp [Lib.F_h_event, fDef, Lib.ev_h_event, draw_eq, pick_eq, q1, q2, q3, eqP, dat, peq]
    · have hf : f = 3 ∨ f = 4 ∨ f = 5 ∨ f = 6 ∨ f = 7 := by omega
      rcases hf with rfl | rfl | rfl | rfl | rfl
      · refine ⟨_, o2, ?_, .act (w := "time") (by simp [doW]) s0 s1, b2.mono (by omega)⟩
        simp [Lib.F_h_event, fDef, Lib.ev_h_event, draw_eq, pick_eq, q1, q2, ixP, atI, ixN, eqP, dat, peq, LIM]
      · refine ⟨_, o2, ?_, .act (w := "build") (by simp [doW]) s0 s1, b2.mono (by omega)⟩
        simp [Lib.F_h_event, fDef, Lib.ev_h_event, draw_eq, pick_eq, q1, q2, ixP, atI, ixN, eqP, dat, peq, LIM]
      · refine ⟨_, o2, ?_, .act (w := "leave") (by simp [doW]) s0 s1, b2.mono (by omega)⟩
        simp [Lib.F_h_event, fDef, Lib.ev_h_event, draw_eq, pick_eq, q1, q2, ixP, atI, ixN, eqP, dat, peq, LIM]
      · refine ⟨_, o2, ?_, .act (w := "work") (by simp [doW]) s0 s1, b2.mono (by omega)⟩
        simp [Lib.F_h_event, fDef, Lib.ev_h_event, draw_eq, pick_eq, q1, q2, ixP, atI, ixN, eqP, dat, peq, LIM]
      · refine ⟨_, o2, ?_, .act (w := "wipe") (by simp [doW]) s0 s1, b2.mono (by omega)⟩
        simp [Lib.F_h_event, fDef, Lib.ev_h_event, draw_eq, pick_eq, q1, q2, ixP, atI, ixN, eqP, dat, peq, LIM]
theorem IsName.lst {xs : List PV} (h : ∀ x ∈ xs, IsName x) : ∃ ws : List PySem.Str, xs = ws.map .str ∧ ∀ w ∈ ws, w ∈ pool := by
  induction xs with
  | nil => exact ⟨[], rfl, by simp⟩
  | cons x r ih =>
    obtain ⟨ws, e, k⟩ := ih fun y hy => h y (List.mem_cons_of_mem _ hy)
    obtain ⟨w, hw, rfl⟩ := h x List.mem_cons_self
    refine ⟨w :: ws, by rw [e]; rfl, fun y hy => ?_⟩
    rcases List.mem_cons.mp hy with z | z
    · rw [z]; exact hw
    · exact k y z
theorem weaving_spec {n : Int} {o : OS} {mx : Int} (mx0 : 0 ≤ mx) (mx1 : mx ≤ 40) (h : IsBox n o) (hn : n ≤ 2 ^ 38) : ∃ (ws : List PySem.Str) (evs : List PV) (o' : OS), Lib.F_h_weaving [.ow o, .t (.int mx)] = .ret (.t (.tup [.lst (ws.map .str), .lst evs])) [.ow o', .t (.int mx)] ∧
    (∀ w ∈ ws, w ∈ pool) ∧ 0 < ws.length ∧ ws.length ≤ 4 ∧ (∀ t ∈ evs, IsEv ws.length t) ∧ evs.length ≤ mx ∧ IsBox (n + 300) o' := by
  obtain ⟨ys, o1, q1, hy, hyl, b1⟩ := names_spec h (by omega)
  obtain ⟨r, o2, q2, r0, r1, b2⟩ := A.draw_spec (m := 4) b1 (by omega) (by decide) (by decide)
  have k1 : cutP ys none (some 4) = ys.take 4 := by unfold cutP; simp [HT.sIx, hyl]
  have k2 : cutP ys (some 4) none = ys.drop 4 := by unfold cutP; simp [HT.sIx, hyl]; rw [List.take_of_length_le]; simp [hyl]
  have t1 : (rangeL 0 (1 + r).toNat).length ≤ 4 := by rw [rangeL_len]; omega
  have t1' : 0 < (rangeL 0 (1 + r).toNat).length := by rw [rangeL_len]; omega
  -- the first places
  obtain ⟨fs, e1, c1, l1, p1, o3, he1, b3⟩ := compS (ea := eRes (rCall 2 Lib.F_h_pick [] (aCons (eVar 0) (aCons (eRes (rSl (eVar 2) oNo (oSo (eCon (.int 4))))) aNil)))) (al := alive (.tr .non) (rangeL 0 (1 + r).toNat)) (j := 4) 4
    (fun k e => ∃ o', e = [some (.ow o'), some (.t (.int mx)), some (.t (.lst ys)), none, none] ∧ IsBox (n + 16 + k) o') IsName (fun _ _ _ => rfl) (rangeL 0 (1 + r).toNat) [] 0 _ (by simp; omega) (by omega) ⟨o2, rfl, b2.mono (by omega)⟩ (fun t ht k e hk h => by
      obtain ⟨o', rfl, hb⟩ := h
      obtain ⟨x, o3, q3, hx, b3⟩ := A.pick_spec (xs := ys.take 4) hb (by omega) (by rw [List.length_take, hyl]; decide) (by rw [List.length_take, hyl]; decide)
      refine ⟨x, _, by simp [slA, k1, pick_eq, q3]; rfl, hy x (List.mem_of_mem_take hx), _, rfl, b3.mono (by omega)⟩)
  subst he1
  rw [← l1] at t1 t1' b3
  obtain ⟨ws, rfl, hw⟩ := IsName.lst p1
  rw [List.length_map] at t1 t1' b3
  obtain ⟨m, o4, q4, m0, m1, b4⟩ := A.draw_spec (m := mx + 1) b3 (by omega) (by omega) (by omega)
  have t2 : (rangeL 0 m.toNat).length ≤ 40 := by rw [rangeL_len]; omega
  obtain ⟨evs, e2, c2, l2, p2, o5, he2, b5⟩ := compS (ea := eRes (rCall 3 Lib.F_h_event [] (aCons (eVar 0) (aCons (eRes (rBui lenF (aCons (eVar 3) aNil))) (aCons (eRes (rSl (eVar 2) (oSo (eCon (.int 4))) oNo)) aNil))))) (al := alive (.tr .non) (rangeL 0 m.toNat)) (j := 4) 40
    (fun k e => ∃ o', e = [some (.ow o'), some (.t (.int mx)), some (.t (.lst ys)), some (.t (.lst (ws.map .str))), none] ∧ IsBox (n + 50 + 3 * k) o') (IsEv ws.length) (fun _ _ _ => rfl) (rangeL 0 m.toNat) [] 0 _ (by simp; omega) (by omega) ⟨o4, rfl, b4.mono (by omega)⟩ (fun t ht k e hk h => by
      obtain ⟨o', rfl, hb⟩ := h
      obtain ⟨x, o3, q3, hx, b3⟩ := event_spec (m := ws.length) (ls := ys.drop 4) hb (by omega) (by omega) (by omega) (by rw [List.length_drop, hyl]; decide) (by rw [List.length_drop, hyl]; decide) (fun l hl => hy l (List.mem_of_mem_drop hl))
      refine ⟨x, _, by simp [slA, k2, lenF, q3]; rfl, hx, _, rfl, b3.mono (by omega)⟩)
  subst he2
  refine ⟨ws, evs, o5, ?_, hw, t1', t1, p2, by rw [l2, rangeL_len]; omega, b5.mono (by omega)⟩
  have z1 : (-1000000000 ≤ 1 + r ∧ 1 + r ≤ 1000000000) := by omega
  have z2 : (-1000000000 ≤ m ∧ m ≤ 1000000000) := by omega
  have a1 : alive (.tr .non) (rangeL 0 (1 + r).toNat) = fun _ => true := rfl
  have a2 : alive (.tr .non) (rangeL 0 m.toNat) = fun _ => true := rfl
  simp [Lib.F_h_weaving, fDef, Lib.ev_h_weaving, q1, draw_eq, q2, addA, z1, z2, q4, c1, c2]
def plainK : PV → Bool
  | .dct _ _ => false
  | .ins _ _ => false
  | .scr _ => false
  | .cls _ => false
  | _ => true
theorem dat_plain {n : Nat} {v : PV} (h : dat n v = true) : plainK v = true := by
  cases v with
  | dct _ _ => cases n <;> cases h
  | ins _ _ => cases n <;> cases h
  | scr _ => cases n <;> cases h
  | cls _ => cases n <;> cases h
  | _ => rfl
theorem eq_nil {xs : List PV} (h : datL 63 xs = true) : eqP (.lst xs) (.lst []) = some (.bl xs.isEmpty) := by
  have d : dat 64 (.lst xs) = true := by rw [dat]; exact h
  have e : dat 64 (.lst []) = true := rfl
  cases xs <;> simp [eqP, d, e, peq, peqL]
theorem ne_nil {xs : List PV} (h : datL 63 xs = true) : neP (.lst xs) (.lst []) = some (.bl (!xs.isEmpty)) := by
  have d : dat 64 (.lst xs) = true := by rw [dat]; exact h
  have e : dat 64 (.lst []) = true := rfl
  cases xs <;> simp [neP, d, e, peq, peqL]
theorem fil_all {α : Type} (p : α → Bool) (xs : List α) : (xs.filter fun x => !p x).isEmpty = xs.all p := by
  induction xs with
  | nil => rfl
  | cons x r ih =>
    cases hp : p x <;> simp [hp, List.filter_cons]
    simpa using ih
theorem pickD {n : Int} {o : OS} {xs : List PV} (h : IsBox n o) (hn : n ≤ 2 ^ 39) (h0 : 0 < xs.length) (hm : xs.length < 100) {k : Nat} (hd : ∀ x ∈ xs, dat k x = true) : ∃ x o', A.F_pick [.ow o, .t (.lst xs)] = .ret (.t x) [.ow o', .t (.lst xs)] ∧ dat k x = true ∧ IsBox (n + 1) o' := by
  obtain ⟨x, o', q, hx, hb⟩ := A.pick_spec h (by omega) h0 (by omega)
  exact ⟨x, o', q, hd x hx, hb⟩
theorem shown_num {i : Int} (h0 : 0 ≤ i) (h1 : i < 10 ^ 9) : Sh 9 (toD (.int i)).shown := by
  have e : (toD (.int i)).shown = numS i := rfl
  rw [e]
  refine ⟨numS_len (by decide) h0 h1, fun c hc => ?_⟩
  have := numS_digits h0 c hc
  omega
theorem shw_by {t : PV} {k : Nat} (hk : k ≤ 1000000) (d : dat 60 t = true) (s : (toD t).showable = true) (h : Sh k (toD t).shown) : shw t = true := by
  unfold shw
  simp only [d, s, Bool.true_and, Bool.and_eq_true, decide_eq_true_iff]
  refine ⟨Nat.le_trans h.1 (by unfold LIM; exact hk), ?_⟩
  unfold PyData.strOk
  rw [← Array.all_toList, List.all_eq_true]
  exact fun c hc => decide_eq_true (h.2 c hc)
theorem enum_len : ∀ (xs : List PV) (k : Nat), (enumL k xs).length = xs.length
  | [], _ => rfl
  | x :: xs, k => by simp [enumL, enum_len xs]
theorem enum_at : ∀ {xs : List PV} {k : Nat} {u : PV}, u ∈ enumL k xs → ∃ (j : Int) (t : PV), u = .tup [.int j, t] ∧ t ∈ xs
  | [], k, u, h => by simp [enumL] at h
  | t :: ts, k, u, h => by
    simp only [enumL, List.mem_cons] at h
    rcases h with rfl | h
    · exact ⟨_, t, rfl, List.mem_cons_self⟩
    · obtain ⟨j, t', e, m⟩ := enum_at h
      exact ⟨j, t', e, List.mem_cons_of_mem _ m⟩
/-! ### good ones -/
theorem nm_pool : ∀ w ∈ pool, nmS w = true := by
  intro w hw
  simp only [pool, List.mem_cons, List.not_mem_nil, or_false] at hw
  rcases hw with rfl | rfl | rfl | rfl | rfl | rfl | rfl | rfl | rfl | rfl | rfl | rfl | rfl | rfl | rfl <;> decide +kernel
theorem do_doW : ∀ w ∈ doW, doB w = true := by
  intro w hw
  simp only [doW, List.mem_cons, List.not_mem_nil, or_false] at hw
  rcases hw with rfl | rfl | rfl | rfl | rfl <;> decide +kernel
theorem sa_saW : ∀ w ∈ saW, saB w = true := by
  intro w hw
  simp only [saW, List.mem_cons, List.not_mem_nil, or_false] at hw
  rcases hw with rfl | rfl <;> decide +kernel
theorem ev_good {m : Int} {t : PV} (h : IsEv m t) : evB m t = true := by
  cases h with
  | @say w l s hw h0 h1 hl => simp [evB, sa_saW _ hw, stepB, h0, h1, nmB, nm_pool _ hl]
  | @turn s h0 h1 => simp [evB, natB, h0]
  | @act w s hw h0 h1 => simp [evB, do_doW _ hw, stepB, h0, h1]
theorem bad_none {m : Int} : ∀ {xs : List PV} {k : Nat}, (∀ x ∈ xs, evB m x = true) → badAt m xs k = none
  | [], _, _ => rfl
  | x :: xs, k, h => by rw [badAt, h x List.mem_cons_self, if_pos rfl]; exact bad_none fun y hy => h y (List.mem_cons_of_mem _ hy)
end Pw
end
section
/-! PT: plain facts on texts: of plain signs, split and joined, shown, numbers read. -/
namespace TreeL
open PySem PySem.Spec PyProof.Rows L2
/-- of ASCII signs -/
def Asc (s : Str) : Prop := ∀ c ∈ TL.tl s, c < 128
theorem Asc.by {s : Str} (h : ((TL.tl s).all fun c => decide (c < 128)) = true) : Asc s := fun c hc => of_decide_eq_true (List.all_eq_true.mp h c hc)
theorem Asc.append {a b : Str} (h : Asc a) (g : Asc b) : Asc (a ++ b) := fun c hc => by
  rw [TL.tl_append] at hc
  rcases List.mem_append.mp hc with z | z
  · exact h c z
  · exact g c z
theorem split_joinL (x y : Str) : TL.tl x = TL.joinL (TL.tl y) ((Txt.split x y).map TL.tl) := by
  have e := PySem.StrLaws.join_split x y
  have e2 := TL.tl_join y (Txt.split x y)
  rw [e] at e2
  exact e2
theorem join_split (x y : Str) : Txt.join y (Txt.split x y) = x := by
  apply str_ext
  rw [tl_joinS]
  exact (split_joinL x y).symm
theorem Asc.split {x y : Str} (h : Asc x) : ∀ p ∈ Txt.split x y, Asc p := fun p hp c hc => by
  have m := joinL_has (S := TL.tl y) (List.mem_map_of_mem (f := TL.tl) hp)
  rw [← split_joinL] at m
  exact h c (m.1 c hc)
theorem Asc.join {a : Str} {ss : List Str} (h : Asc a) (g : ∀ s ∈ ss, Asc s) : Asc (Txt.join a ss) := fun c hc => by
  rcases join_memS hc with z | ⟨s, hs, z⟩
  · exact h c z
  · exact g s hs c z
theorem split_len {x y p : Str} (hp : p ∈ Txt.split x y) : p.length ≤ x.length := by
  have m := joinL_has (S := TL.tl y) (List.mem_map_of_mem (f := TL.tl) hp)
  rw [← split_joinL] at m
  rw [TL.len_tl, TL.len_tl]
  exact m.2
/-- letters and gaps -/
def wt (ss : List Str) : Nat := (ss.map (·.length)).sum + ss.length
theorem wt_nil : wt [] = 0 := rfl
theorem wt_cons (s : Str) (ss : List Str) : wt (s :: ss) = s.length + 1 + wt ss := by simp only [wt, List.map_cons, List.sum_cons, List.length_cons]; omega
theorem wt_append (a b : List Str) : wt (a ++ b) = wt a + wt b := by simp only [wt, List.map_append, List.sum_append, List.length_append]; omega
theorem wt_rev (a : List Str) : wt a.reverse = wt a := by simp only [wt, List.map_reverse, List.sum_reverse, List.length_reverse]
theorem wt_cut (a : List Str) (k : Nat) : wt (a.take k) + wt (a.drop k) = wt a := by rw [← wt_append, List.take_append_drop]
theorem wt_take (a : List Str) (k : Nat) : wt (a.take k) ≤ wt a := by have := wt_cut a k; omega
theorem wt_drop (a : List Str) (k : Nat) : wt (a.drop k) ≤ wt a := by have := wt_cut a k; omega
theorem wt_drops (a : List Str) {j k : Nat} (h : j ≤ k) : wt (a.drop k) ≤ wt (a.drop j) := by
  have : a.drop k = (a.drop j).drop (k - j) := by rw [List.drop_drop]; congr 1; omega
  rw [this]; exact wt_drop _ _
theorem joinL_ge {S : List Nat} (h : 0 < S.length) : ∀ ps : List (List Nat), (ps.map List.length).sum + ps.length ≤ (TL.joinL S ps).length + 1
  | [] => by simp
  | [p] => by simp [TL.joinL]
  | p :: q :: r => by
    have ih := joinL_ge h (q :: r)
    simp only [TL.joinL, List.length_append, List.map_cons, List.sum_cons, List.length_cons] at ih ⊢
    omega
theorem wt_split {x y : Str} (h : 0 < (TL.tl y).length) : wt (Txt.split x y) ≤ x.length + 1 := by
  have := joinL_ge h ((Txt.split x y).map TL.tl)
  rw [← split_joinL, List.map_map, List.length_map, ← TL.len_tl] at this
  have e : ((Txt.split x y).map (List.length ∘ TL.tl)) = (Txt.split x y).map (·.length) := List.map_congr_left fun s _ => (TL.len_tl s).symm
  rw [e] at this
  exact this
theorem join_wt {ss : List Str} (h : wt ss ≤ 1000000) : joinM (.str " ") [.lst (ss.map .str)] = some (.t (.str (Txt.join " " ss))) := by
  simp only [joinM, strsP_map, Option.bind_some]
  have e : (Str.ofString " ").length = 1 := by decide +kernel
  rw [if_pos (by unfold LIM; rw [e]; unfold wt at h; omega)]
theorem join_wt2 {ss : List Str} (h : 2 * wt ss ≤ 1000000) : joinM (.str "; ") [.lst (ss.map .str)] = some (.t (.str (Txt.join "; " ss))) := by
  simp only [joinM, strsP_map, Option.bind_some]
  have e : (Str.ofString "; ").length = 2 := by decide +kernel
  rw [if_pos (by unfold LIM; rw [e]; unfold wt at h; omega)]
theorem join_wt_len (ss : List Str) : (Txt.join " " ss).length ≤ wt ss := by
  have h1 := joinL_lenS (TL.tl (Str.ofString " ")) (ss.map TL.tl)
  have e1 : (TL.tl (Str.ofString " ")).length = 1 := by decide +kernel
  rw [← tl_joinS, ← TL.len_tl, List.length_map, List.map_map, e1] at h1
  have e : (ss.map (List.length ∘ TL.tl)) = ss.map (·.length) := List.map_congr_left fun s _ => (TL.len_tl s).symm
  rw [e] at h1
  unfold wt
  omega
theorem split_ne (x y : Str) (h : 0 < y.length) : Txt.split x y ≠ [] := by
  intro e
  have h1 := split_joinL x y
  rw [e] at h1
  have hx : TL.tl x = [] := h1
  have hl : x.length = 0 := by rw [TL.len_tl, hx]; rfl
  unfold Txt.split at e
  rw [if_pos (by simp [hl, h])] at e
  cases e
/-! ### shown -/
theorem char_ok : ∀ c < 128, ((PySem.Builtin.Str.reprChar 39 c).all fun d => decide (d < 0x110000)) = true ∧ ((PySem.Builtin.Str.reprChar 34 c).all fun d => decide (d < 0x110000)) = true := by decide +kernel
theorem fold_ok {q : Nat} (hq : q = 39 ∨ q = 34) : ∀ (l : List Nat) (acc : Array Nat), (∀ c ∈ l, c < 128) → (∀ c ∈ acc.toList, c < 0x110000) → ∀ c ∈ (l.foldl (fun out c => out ++ (PySem.Builtin.Str.reprChar q c).toArray) acc).toList, c < 0x110000
  | [], acc, _, h => h
  | d :: r, acc, hl, h => by
    rw [List.foldl_cons]
    refine fold_ok hq r _ (fun c hc => hl c (List.mem_cons_of_mem _ hc)) fun c hc => ?_
    rw [Array.toList_append] at hc
    rcases List.mem_append.mp hc with z | z
    · exact h c z
    · have := char_ok d (hl d List.mem_cons_self)
      rcases hq with rfl | rfl
      · exact of_decide_eq_true (List.all_eq_true.mp this.1 c (by simpa using z))
      · exact of_decide_eq_true (List.all_eq_true.mp this.2 c (by simpa using z))
theorem repr_sh {s : Str} (h : Asc s) : Sh (10 * s.length + 2) (reprText s) := by
  refine ⟨StrLaws.reprText_len s fun c hc => Nat.lt_trans (h c hc) (by decide), fun c hc => ?_⟩
  have hq : reprQuote s = 39 ∨ reprQuote s = 34 := by unfold reprQuote; split <;> simp
  have hqs : reprQuote s < 0x110000 := by rcases hq with e | e <;> rw [e] <;> decide
  have hc' : c ∈ (reprText s).cps.toList := hc
  unfold reprText at hc'
  rw [Array.toList_push] at hc'
  rcases List.mem_append.mp hc' with z | z
  · rw [← Array.foldl_toList] at z
    exact fold_ok hq s.cps.toList #[reprQuote s] h (fun c hc => by simp at hc; rw [hc]; exact hqs) c z
  · rw [List.mem_singleton.mp z]; exact hqs
theorem shw_of {t : PV} {k : Nat} (hk : k ≤ 1000000) (d : dat 60 t = true) (s : (toD t).showable = true) (h : Sh k (toD t).shown) : shw t = true := by
  unfold shw
  simp only [d, s, Bool.true_and, Bool.and_eq_true, decide_eq_true_iff]
  refine ⟨Nat.le_trans h.1 (by unfold LIM; exact hk), ?_⟩
  unfold PyData.strOk
  rw [← Array.all_toList, List.all_eq_true]
  exact fun c hc => decide_eq_true (h.2 c hc)
theorem repr_asc {s : Str} (h : Asc s) (hl : s.length ≤ 99000) : reprF [.str s] = some (.t (.str (reprText s))) := by
  have e : (toD (.str s)).shown = reprText s := by simp only [toD, PyData.shown]
  have : shw (.str s) = true := shw_of (k := 10 * s.length + 2) (by omega) rfl (by simp only [toD, PyData.showable]) (by rw [e]; exact repr_sh h)
  simp only [reprF, this, if_true, e]
theorem shown_nat {i : Int} (h0 : 0 ≤ i) (h1 : i < 10 ^ 9) : Sh 9 (toD (.int i)).shown := by
  have e : (toD (.int i)).shown = numS i := rfl
  rw [e]
  refine ⟨numS_len (by decide) h0 h1, fun c hc => ?_⟩
  have := numS_digits h0 c hc
  omega
theorem repr_int {i : Int} (h0 : 0 ≤ i) (h1 : i < 10 ^ 9) : reprF [.int i] = some (.t (.str (numS i))) := by
  have lg : i.natAbs.log2 < 1920 := Nat.lt_of_lt_of_le (log2_lt (k := 30) (by omega) (by decide)) (by decide)
  have : shw (.int i) = true := shw_of (k := 9) (by decide) rfl (by simp only [toD, PyData.showable]; exact decide_eq_true lg) (shown_nat h0 h1)
  simp only [reprF, this, if_true]
  rfl
theorem repr_non : reprF [.non] = some (.t (.str (Str.ofString "None"))) := by kernel_rfl
/-! ### numbers read -/
def digB (n : Nat) : Bool := decide (n ∈ TL.tl (Str.ofString "0123456789"))
theorem digB_iff (n : Nat) : digB n = true ↔ 48 ≤ n ∧ n ≤ 57 := by
  have e : TL.tl (Str.ofString "0123456789") = [48, 49, 50, 51, 52, 53, 54, 55, 56, 57] := by decide +kernel
  simp only [digB, e, decide_eq_true_iff, List.mem_cons, List.not_mem_nil, or_false]
  omega
/-- written as str writes a number of at most four digits -/
def canB (s : Str) : Bool := decide (1 ≤ s.length ∧ s.length ≤ 4) && (TL.tl s).all digB && ((s == Str.ofString "0") || !((TL.tl s).head? == some 48))
def numI (s : Str) : Int := (PySem.intText? s).getD 0
theorem numL_back (a : Nat) (r : List Nat) (ha : 48 ≤ a ∧ a ≤ 57) (h0 : a ≠ 48) : ∀ (n : Nat), r.length = n → (∀ c ∈ r, 48 ≤ c ∧ c ≤ 57) → ∃ k : Nat, 0 < k ∧ TL.numL k = a :: r ∧ k < 10 ^ (n + 1) := by
  intro n
  induction n generalizing r with
  | zero =>
    intro hl _
    have : r = [] := List.eq_nil_of_length_eq_zero hl
    subst this
    exact ⟨a - 48, by omega, by rw [TL.numL_lt (by omega)]; congr 1; omega, by omega⟩
  | succ n ih =>
    intro hl hr
    have hne : r ≠ [] := by intro e; rw [e] at hl; cases hl
    obtain ⟨k, k0, hk, hb⟩ := ih r.dropLast (by rw [List.length_dropLast]; omega) fun c hc => hr c ((List.dropLast_sublist r).subset hc)
    have hd := hr _ (List.getLast_mem hne)
    refine ⟨10 * k + (r.getLast hne - 48), by omega, ?_, ?_⟩
    · rw [TL.numL_step (by omega)]
      have e1 : (10 * k + (r.getLast hne - 48)) / 10 = k := by omega
      have e2 : 48 + (10 * k + (r.getLast hne - 48)) % 10 = r.getLast hne := by omega
      rw [e1, e2, hk, List.cons_append, List.dropLast_concat_getLast]
    · rw [Nat.pow_succ]; omega
theorem can_num {s : Str} (h : canB s = true) : s = numS (numI s) ∧ 0 ≤ numI s ∧ numI s < 10000 ∧ PySem.intText? s = some (numI s) := by
  unfold canB at h
  simp only [Bool.and_eq_true, decide_eq_true_iff, Bool.or_eq_true] at h
  obtain ⟨⟨⟨l1, l4⟩, hd⟩, hz⟩ := h
  have key : ∀ k : Nat, k < 10000 → TL.tl s = TL.numL k → s = numS (numI s) ∧ 0 ≤ numI s ∧ numI s < 10000 ∧ PySem.intText? s = some (numI s) := fun k hk e => by
    have es : s = numS (k : Int) := str_ext (by rw [e, tl_numS (by omega)]; rfl)
    have hi := TL.int_num (n := k) (by have := TL.numL_len (n := k) (k := 4) (by decide) (by omega); omega)
    have hi' : PySem.intText? s = some (k : Int) := by rw [es]; exact hi
    have hv : numI s = (k : Int) := by unfold numI; rw [hi']; rfl
    rw [hv]
    exact ⟨es, by omega, by omega, hi'⟩
  have hl : (TL.tl s).length = s.length := (TL.len_tl s).symm
  rcases hz with hz | hz
  · exact key 0 (by decide) (by rw [eq_of_beq hz]; decide +kernel)
  · match ht : TL.tl s with
    | [] => rw [ht] at hl; simp at hl; omega
    | a :: r =>
      rw [ht] at hl hd hz
      rw [List.length_cons] at hl
      have hd' : ∀ c ∈ a :: r, 48 ≤ c ∧ c ≤ 57 := fun c hc => (digB_iff c).mp (List.all_eq_true.mp hd c hc)
      have ha : a ≠ 48 := by intro e; rw [e] at hz; simp at hz
      obtain ⟨k, _, e, hb⟩ := numL_back a r (hd' a List.mem_cons_self) ha r.length rfl fun c hc => hd' c (List.mem_cons_of_mem _ hc)
      refine key k ?_ (by rw [e, ht])
      exact Nat.lt_of_lt_of_le hb (Nat.le_trans (Nat.pow_le_pow_right (by decide) (by omega : r.length + 1 ≤ 4)) (by decide))
/-! ### pieces of lists of texts -/
theorem cutS_lo (ss : List Str) (a : Nat) : cutP (ss.map .str) none (some (a : Int)) = (ss.take a).map .str := by
  rw [cutP_map]
  simp only [HT.sIx, if_neg (show ¬ ((a : Int) < 0) by omega), Int.toNat_natCast, List.drop_zero, Nat.sub_zero]
  congr 1
  by_cases h : a ≤ ss.length
  · rw [Nat.min_eq_left h]
  · rw [Nat.min_eq_right (by omega), List.take_of_length_le (Nat.le_refl _), List.take_of_length_le (by omega)]
theorem cutS_hi (ss : List Str) (a : Nat) : cutP (ss.map .str) (some (a : Int)) none = (ss.drop a).map .str := by
  rw [cutP_map]
  simp only [HT.sIx, if_neg (show ¬ ((a : Int) < 0) by omega), Int.toNat_natCast]
  congr 1
  by_cases h : a ≤ ss.length
  · rw [Nat.min_eq_left h, List.take_of_length_le (by rw [List.length_drop]; omega)]
  · rw [Nat.min_eq_right (by omega), List.drop_eq_nil_of_le (Nat.le_refl _), List.drop_eq_nil_of_le (by omega)]
    simp
theorem cutS_mid (ss : List Str) (a b : Nat) (h : a ≤ b) : cutP (ss.map .str) (some (a : Int)) (some (b : Int)) = ((ss.drop a).take (b - a)).map .str := by
  rw [cutP_map]
  simp only [HT.sIx, if_neg (show ¬ ((a : Int) < 0) by omega), if_neg (show ¬ ((b : Int) < 0) by omega), Int.toNat_natCast]
  congr 1
  by_cases h1 : a ≤ ss.length
  · rw [Nat.min_eq_left h1]
    by_cases h2 : b ≤ ss.length
    · rw [Nat.min_eq_left h2]
    · rw [Nat.min_eq_right (by omega), List.take_of_length_le (by rw [List.length_drop]; omega), List.take_of_length_le (by rw [List.length_drop]; omega)]
  · have e : min a ss.length = ss.length := Nat.min_eq_right (by omega)
    rw [e, List.drop_eq_nil_of_le (Nat.le_refl _), List.drop_eq_nil_of_le (by omega)]
    simp
theorem rng1 {ea : EvE} {env : En} {n : Nat} (h : n ≤ 1000000) (e : ea env = .ok (.tr (.int ((n : Int) + 1))) env) : iRngB (aCons (eCon (.int 1)) (aCons ea aNil)) env = .ok ⟨rangeL 1 n, .tr .non⟩ env := by
  simp only [iRngB, aCons, eCon, aNil, RE.bind, looks, look, e]
  rw [if_pos ⟨by omega, by omega, by omega, by omega⟩, show ((n : Int) + 1 - 1).toNat = n by omega]
end TreeL
end
section
/-! PS: texts of words joined by ' w ', split at ' w ' again. -/
namespace TreeL
open PySem PySem.Spec PyProof.Rows L2
theorem pre_some {S l : List Nat} (h : TL.pre S l = true) : ∃ t, l = S ++ t := by
  have e : l.take S.length = S := eq_of_beq h
  have h2 := List.take_append_drop S.length l
  rw [e] at h2
  exact ⟨l.drop S.length, h2.symm⟩
/-- a word before a gap is known -/
theorem word_eq {s : Nat} {W w A B : List Nat} (hW : s ∉ W) (hw : s ∉ w) (h : W ++ s :: A = w ++ s :: B) : W = w := by
  induction W generalizing w with
  | nil =>
    cases w with
    | nil => rfl
    | cons c r =>
      simp only [List.nil_append, List.cons_append, List.cons.injEq] at h
      exact absurd (by rw [h.1]; exact List.mem_cons_self) hw
  | cons c r ih =>
    cases w with
    | nil =>
      simp only [List.nil_append, List.cons_append, List.cons.injEq] at h
      exact absurd (by rw [← h.1]; exact List.mem_cons_self) hW
    | cons d q =>
      simp only [List.cons_append, List.cons.injEq] at h
      rw [h.1, ih (fun z => hW (List.mem_cons_of_mem _ z)) (fun z => hw (List.mem_cons_of_mem _ z)) h.2]
theorem joinL_head {s : Nat} {w : List Nat} : ∀ {r : List (List Nat)}, TL.joinL [s] (w :: r) = w ∨ ∃ Y, TL.joinL [s] (w :: r) = w ++ s :: Y
  | [] => .inl rfl
  | q :: r => .inr ⟨TL.joinL [s] (q :: r), rfl⟩
/-- words other than W, gaps between them: ' W ' stands nowhere in them -/
theorem no_sep {s : Nat} {W : List Nat} (hW : s ∉ W) : ∀ {ws : List (List Nat)} {T : List Nat}, (T = [] ∨ ∃ T', T = s :: T') → (∀ w ∈ ws, s ∉ w ∧ w ≠ W) → ∀ i, i < (TL.joinL [s] ws).length → TL.pre (s :: (W ++ [s])) ((TL.joinL [s] ws ++ T).drop i) = false
  | [], T, _, _, i, hi => absurd hi (Nat.not_lt_zero _)
  | [w], T, hT, h, i, hi => TL.free_of (q := T) (h w (by simp)).1 i hi
  | w :: w2 :: r, T, hT, h, i, hi => by
    have hw := h w (by simp)
    have hw2 := h w2 (by simp)
    have ej : TL.joinL [s] (w :: w2 :: r) = w ++ (s :: TL.joinL [s] (w2 :: r)) := rfl
    rw [ej] at hi ⊢
    rw [List.append_assoc, List.cons_append]
    by_cases h1 : i < w.length
    · exact TL.free_of hw.1 i h1
    · by_cases h2 : i = w.length
      · subst h2
        rw [List.drop_left]
        cases hp : TL.pre (s :: (W ++ [s])) (s :: (TL.joinL [s] (w2 :: r) ++ T)) with
        | false => rfl
        | true =>
          obtain ⟨t, ht⟩ := pre_some hp
          simp only [List.cons_append, List.append_assoc, List.cons.injEq, true_and, List.singleton_append] at ht
          exfalso
          rcases joinL_head (s := s) (w := w2) (r := r) with e | ⟨Y, e⟩
          · rw [e] at ht
            rcases hT with rfl | ⟨T', rfl⟩
            · rw [List.append_nil] at ht
              exact hw2.1 (by rw [ht]; simp)
            · exact hw2.2 (word_eq hW hw2.1 ht.symm).symm
          · rw [e, List.append_assoc, List.cons_append] at ht
            exact hw2.2 (word_eq hW hw2.1 ht.symm).symm
      · have hi2 : i - w.length - 1 < (TL.joinL [s] (w2 :: r)).length := by
          rw [List.length_append, List.length_cons] at hi
          omega
        have ih := no_sep hW (ws := w2 :: r) hT (fun x hx => h x (List.mem_cons_of_mem _ hx)) (i - w.length - 1) hi2
        have ed : (w ++ (s :: (TL.joinL [s] (w2 :: r) ++ T))).drop i = (TL.joinL [s] (w2 :: r) ++ T).drop (i - w.length - 1) := by
          rw [List.drop_append, List.drop_eq_nil_of_le (by omega), List.nil_append]
          have : i - w.length = (i - w.length - 1) + 1 := by omega
          rw [this, List.drop_succ_cons]
          congr 1
        rw [ed]
        exact ih
/-- parts made of such words -/
def Wordy (s : Nat) (W p : List Nat) : Prop := ∃ ws : List (List Nat), p = TL.joinL [s] ws ∧ ∀ w ∈ ws, s ∉ w ∧ w ≠ W
theorem spl_words {s : Nat} {W : List Nat} (hW : s ∉ W) : ∀ {parts : List (List Nat)}, parts ≠ [] → (∀ p ∈ parts, Wordy s W p) → TL.spl (s :: (W ++ [s])) 0 [] (TL.joinL (s :: (W ++ [s])) parts) = parts
  | [], h, _ => absurd rfl h
  | [p], _, hp => by
    obtain ⟨ws, rfl, h⟩ := hp p (by simp)
    show TL.spl _ 0 [] (TL.joinL [s] ws) = _
    have := TL.spl_last (S := s :: (W ++ [s])) (p := TL.joinL [s] ws) (acc := []) fun i hi => by
      have := no_sep hW (T := []) (.inl rfl) h i hi
      rwa [List.append_nil] at this
    rw [this, List.nil_append]
  | p :: q :: r, _, hp => by
    obtain ⟨ws, e, h⟩ := hp p (by simp)
    show TL.spl _ 0 [] (p ++ ((s :: (W ++ [s])) ++ TL.joinL (s :: (W ++ [s])) (q :: r))) = p :: q :: r
    rw [TL.spl_part (by simp) (fun i hi => by
      rw [e] at hi ⊢
      exact no_sep hW (.inr ⟨_, rfl⟩) h i hi), List.nil_append, spl_words hW (by simp) fun z hz => hp z (List.mem_cons_of_mem _ hz)]
/-- THE READ-BACK with a word for a separator -/
theorem split_words {y : Str} {s : Nat} {W : List Nat} (ey : TL.tl y = s :: (W ++ [s])) (hk : y.cps.all (· < 256) = true) (hW : s ∉ W) {parts : List Str} (hne : parts ≠ []) (hp : ∀ p ∈ parts, Wordy s W (TL.tl p)) :
    Txt.split (Txt.join y parts) y = parts := by
  refine TL.map_tl_inj ?_
  rw [TL.split_spl _ y (by rw [ey]; simp) (TL.kind_ok hk), TL.join_eq, TL.tl_join, ey]
  refine spl_words hW (fun e => hne (List.map_eq_nil_iff.mp e)) fun p h => ?_
  obtain ⟨z, hz, rfl⟩ := List.mem_map.mp h
  exact hp z hz
/-! ### joined pieces joined -/
theorem joinL_app {S : List Nat} : ∀ {a b : List (List Nat)}, a ≠ [] → b ≠ [] → TL.joinL S (a ++ b) = TL.joinL S a ++ (S ++ TL.joinL S b)
  | [], _, h, _ => absurd rfl h
  | [x], b :: r, _, _ => rfl
  | x :: y :: r, b, _, hb => by
    have ih := joinL_app (S := S) (a := y :: r) (b := b) (by simp) hb
    show x ++ (S ++ TL.joinL S ((y :: r) ++ b)) = (x ++ (S ++ TL.joinL S (y :: r))) ++ (S ++ TL.joinL S b)
    rw [ih]
    simp only [List.append_assoc]
def flatL (W : List Nat) : List (List (List Nat)) → List (List Nat)
  | [] => []
  | [p] => p
  | p :: q :: r => p ++ W :: flatL W (q :: r)
theorem flatL_ne {W : List Nat} : ∀ {l : List (List (List Nat))}, l ≠ [] → (∀ p ∈ l, p ≠ []) → flatL W l ≠ []
  | [], h, _ => absurd rfl h
  | [p], _, h => h p (by simp)
  | p :: q :: r, _, h => by simp [flatL]
theorem joinL_flat {s : Nat} {W : List Nat} : ∀ {l : List (List (List Nat))}, (∀ p ∈ l, p ≠ []) → TL.joinL (s :: (W ++ [s])) (l.map (TL.joinL [s])) = TL.joinL [s] (flatL W l)
  | [], _ => rfl
  | [p], _ => rfl
  | p :: q :: r, h => by
    have ih := joinL_flat (s := s) (W := W) (l := q :: r) fun x hx => h x (List.mem_cons_of_mem _ hx)
    have hf : flatL W (q :: r) ≠ [] := flatL_ne (by simp) fun x hx => h x (List.mem_cons_of_mem _ hx)
    show TL.joinL [s] p ++ ((s :: (W ++ [s])) ++ TL.joinL (s :: (W ++ [s])) ((q :: r).map (TL.joinL [s]))) = TL.joinL [s] (p ++ W :: flatL W (q :: r))
    rw [ih, joinL_app (h p (by simp)) (by simp)]
    have e : TL.joinL [s] (W :: flatL W (q :: r)) = W ++ ([s] ++ TL.joinL [s] (flatL W (q :: r))) := by
      cases hq : flatL W (q :: r) with
      | nil => exact absurd hq hf
      | cons a b => rfl
    rw [e]
    simp
def flatS (w : Str) : List (List Str) → List Str
  | [] => []
  | [p] => p
  | p :: q :: r => p ++ w :: flatS w (q :: r)
theorem flatS_tl (w : Str) : ∀ l : List (List Str), (flatS w l).map TL.tl = flatL (TL.tl w) (l.map fun p => p.map TL.tl)
  | [] => rfl
  | [p] => rfl
  | p :: q :: r => by
    have ih := flatS_tl w (q :: r)
    show (p ++ w :: flatS w (q :: r)).map TL.tl = p.map TL.tl ++ TL.tl w :: flatL (TL.tl w) ((q :: r).map fun p => p.map TL.tl)
    rw [List.map_append, List.map_cons, ih]
theorem gap_tl : TL.tl (Str.ofString " ") = [32] := by decide +kernel
/-- texts of words joined by ' w ': all the words -/
theorem join_flat {y w : Str} (ey : TL.tl y = 32 :: (TL.tl w ++ [32])) {l : List (List Str)} (h : ∀ p ∈ l, p ≠ []) : Txt.join y (l.map (Txt.join " ")) = Txt.join " " (flatS w l) := by
  apply str_ext
  rw [tl_joinS, tl_joinS, flatS_tl, ey, gap_tl, List.map_map]
  have e : l.map (TL.tl ∘ Txt.join (Str.ofString " ")) = (l.map fun p => p.map TL.tl).map (TL.joinL [32]) := by
    rw [List.map_map]
    refine List.map_congr_left fun p _ => ?_
    show TL.tl (Txt.join (Str.ofString " ") p) = TL.joinL [32] (p.map TL.tl)
    rw [tl_joinS, gap_tl]
  rw [e]
  exact joinL_flat fun p hp => by
    obtain ⟨q, hq, rfl⟩ := List.mem_map.mp hp
    exact fun z => h q hq (List.map_eq_nil_iff.mp z)
/-- a joined piece within -/
theorem join_nest {a b c : List Str} (hb : b ≠ []) : Txt.join " " (a ++ Txt.join " " b :: c) = Txt.join " " (a ++ (b ++ c)) := by
  apply str_ext
  rw [tl_joinS, tl_joinS, gap_tl, List.map_append, List.map_append, List.map_append, List.map_cons]
  have eb : TL.tl (Txt.join (Str.ofString " ") b) = TL.joinL [32] (b.map TL.tl) := by rw [tl_joinS, gap_tl]
  rw [eb]
  have hbm : b.map TL.tl ≠ [] := fun z => hb (List.map_eq_nil_iff.mp z)
  have key : TL.joinL [32] (TL.joinL [32] (b.map TL.tl) :: c.map TL.tl) = TL.joinL [32] (b.map TL.tl ++ c.map TL.tl) := by
    cases hc : c.map TL.tl with
    | nil => rw [List.append_nil]; rfl
    | cons x r =>
      rw [joinL_app hbm (by simp)]
      rfl
  cases ha : a.map TL.tl with
  | nil => rw [List.nil_append, List.nil_append]; exact key
  | cons x r =>
    rw [joinL_app (by simp) (by simp), joinL_app (by simp) (by simp [hb]), key]
end TreeL
end
section
/-! PRw: rows drawn, made, shown; plain Lean (for the laws of rows). -/
namespace Pr
open PySem PySem.Spec PyProof.Rows L2 TreeL Pw
@[local simp] theorem LIM_eq : LIM = 1000000 := rfl
abbrev ks : List Nat := [0, 1, 2, 3, 4, 5]
/-! ### what is asked of the parts -/
theorem is_word_s (s : PySem.Str) (bs : List PySem.Str) : Lib.F_is_word ks [.t (.str s), .t (.tup (bs.map .str))] = .ret (.t (.bl (bs.any fun z => z == s))) [.t (.str s), .t (.tup (bs.map .str))] := by
  have h := in_strs s bs
  simp [Lib.F_is_word, fDef, Lib.ev_is_word, h]
theorem beq_str (a b : PySem.Str) : PV.beq (.str a) (.str b) = (a == b) := by simp [PV.beq]
/-- the dict of unlike keys -/
theorem put_new {acc : List PySem.Str} {x : PySem.Str} (h : x ∉ acc) : putP (acc.map fun y => (PV.str y, PV.bl true)) (.str x) (.bl true) = (acc ++ [x]).map fun y => (PV.str y, PV.bl true) := by
  unfold putP
  rw [if_neg, List.map_append]
  · rfl
  · rw [List.any_eq_true]
    rintro ⟨p, hp, e⟩
    obtain ⟨y, hy, rfl⟩ := List.mem_map.mp hp
    rw [beq_str] at e
    rw [eq_of_beq e] at hy
    exact h hy
theorem comp_keys {al : En → Bool} {env : En} {j : Nat} (hal : al env = true) (hj : env[j]? = some none) : ∀ (xs acc : List PySem.Str), (acc ++ xs).Nodup → acc.length + xs.length ≤ 1000000 →
    compD (gNm j) tYesT (eVar j) (eCon (.bl true)) [j] al (xs.map .str) (acc.map fun y => (PV.str y, PV.bl true)) env = .ok ((acc ++ xs).map fun y => (PV.str y, PV.bl true)) env
  | [], acc, _, _ => by simp [compD, hal]
  | x :: xs, acc, nd, hl => by
    rw [List.length_cons] at hl
    have hx : x ∉ acc := fun m => by
      have := (List.nodup_append.mp nd).2.2 x m x List.mem_cons_self
      exact this rfl
    have ih := comp_keys (j := j) hal hj xs (acc ++ [x]) (by rw [List.append_assoc]; exact nd) (by rw [List.length_append, List.length_singleton]; omega)
    have lt := (List.getElem?_eq_some_iff.mp hj).1
    have gx : (env.set j (some (.t (.str x))))[j]? = some (some (.t (.str x))) := by simp [lt]
    have hlt : acc.length < 1000000 := by omega
    have pn := put_new hx
    have wb := wipe_back (x := some (.t (.str x))) hj
    simp only [List.map_cons, compD, hal, if_true, gNm, tYesT, eVar, gx, keyOf, eCon, List.length_map, LIM_eq, hlt, pn, wb]
    rw [ih, List.append_assoc]
    rfl
theorem unlike_ok {v : PV} {ws : List PySem.Str} (sv : seqB v = true) (iv : items v = ws.map .str) (hd : dat 9 v = true) (hn : ∀ w ∈ ws, nmS w = true) (nd : ws.Nodup) (hl : ws.length ≤ 1000) : Lib.F_are_unlike_names ks [.t v] = .ret (.t (.bl true)) [.t v] := by
  have an := are_names (ks := ks) (n := 8) hd (by rw [iv, List.length_map]; omega)
  have nb : namesB v = true := by
    simp only [namesB, sv, iv, Bool.true_and, List.all_map, List.all_eq_true]
    exact fun w hw => hn w hw
  rw [nb] at an
  have c1 := comp_keys (al := alive (.tr .non) (ws.map .str)) (env := [some (.t v), none]) (j := 1) rfl rfl ws [] nd (by simp; omega)
  rw [List.nil_append, List.map_nil] at c1
  have e1 : eqP (.int (ws.length : Int)) (.int (ws.length : Int)) = some (.bl true) := by rw [eq_i]; simp
  cases v with
  | lst xs =>
    simp only [items] at iv
    subst iv
    simp [Lib.F_are_unlike_names, fDef, Lib.ev_are_unlike_names, an, c1, lenFD, lenF, e1]
  | tup xs =>
    simp only [items] at iv
    subst iv
    simp [Lib.F_are_unlike_names, fDef, Lib.ev_are_unlike_names, an, c1, lenFD, lenF, e1]
  | _ => cases sv
/-! ### the drawn tests and deeds: few, so asked one by one -/
def holdB (F : FSem) (t : PySem.Str) : Bool := match F [.t (.str t)] with
  | .ret (.t (.bl true)) [.t (.str u)] => u == t
  | _ => false
theorem holdB_ok {F : FSem} {t : PySem.Str} (h : holdB F t = true) : F [.t (.str t)] = .ret (.t (.bl true)) [.t (.str t)] := by
  unfold holdB at h
  split at h
  · rename_i u e
    rw [e, eq_of_beq h]
  · cases h
def ap (a b : PySem.Str) : PySem.Str := a ++ b
def poolN : List PySem.Str := "none" :: pool
def bodiesL : List PySem.Str := (poolN.map (ap "at ")) ++ ((pool.map (ap "marked ")) ++ ([Str.ofString "made", Str.ofString "built"]))
def testsL : List PySem.Str := bodiesL ++ bodiesL.map (ap "not ")
def deedsL : List PySem.Str := (poolN.map (ap "to ")) ++ ((pool.map (ap "mark ")) ++ ([Str.ofString "make", Str.ofString "take", Str.ofString "grip", Str.ofString "free"] ++ ((pool.map (ap "clear ")) ++ (pool.map (ap "send ")))))
theorem tests_all : (testsL.all fun t => holdB (Lib.F_is_test ks) t) = true := by kernel_rfl
theorem deeds_all : (deedsL.all fun t => holdB (Lib.F_is_deed ks) t) = true := by kernel_rfl
theorem test_ok {t : PySem.Str} (h : t ∈ testsL) : Lib.F_is_test ks [.t (.str t)] = .ret (.t (.bl true)) [.t (.str t)] := holdB_ok (List.all_eq_true.mp tests_all t h)
theorem deed_ok {t : PySem.Str} (h : t ∈ deedsL) : Lib.F_is_deed ks [.t (.str t)] = .ret (.t (.bl true)) [.t (.str t)] := holdB_ok (List.all_eq_true.mp deeds_all t h)
/-- of which words they are -/
def wordsB (w : PySem.Str) (t : PySem.Str) : Bool := (Txt.split t " ").all fun z => !(z == w)
theorem wordy {w t : PySem.Str} {n : Nat} {W : List Nat} (hw : TL.tl w = W) (h : wordsB w t = true) : Wordy 32 W (TL.tl t) := by
  refine ⟨(Txt.split t " ").map TL.tl, ?_, fun x hx => ?_⟩
  · have e := split_joinL t " "
    have e1 : TL.tl (Str.ofString " ") = [32] := by decide +kernel
    rw [e1] at e
    exact e
  · obtain ⟨z, hz, rfl⟩ := List.mem_map.mp hx
    refine ⟨StrLaws.split_free t 32 z hz, fun e => ?_⟩
    have := List.all_eq_true.mp h z hz
    rw [str_ext (x := z) (y := w) (by rw [e, hw])] at this
    simp at this
theorem tests_words : (testsL.all fun t => wordsB "and" t && wordsB "do" t) = true := by kernel_rfl
theorem deeds_words : (deedsL.all fun t => wordsB "then" t) = true := by kernel_rfl
/-! ### rows -/
inductive Rw where
  | first (p : PySem.Str)
  | mode (n : PySem.Str) (pr : Option PySem.Str) (ends : List PySem.Str)
  | turn (m w : PySem.Str) (ps : List PySem.Str) (th : PySem.Str)
  | lead (m p e th : PySem.Str) (sends : List PySem.Str)
  | house (e : PySem.Str) (tests deeds : List PySem.Str)
def prV : Option PySem.Str → PV
  | none => .non
  | some s => .str s
def promL : List PySem.Str := ["made", "gone"]
def wayL : List PySem.Str := ["some", "all", "time"]
def plainL : List PySem.Str := ["build", "leave", "work", "wipe"]
inductive Rw.Ok : Rw → Prop where
  | first {p : PySem.Str} (h : p ∈ pool) : Rw.Ok (.first p)
  | mode0 {n : PySem.Str} (h : n ∈ pool) : Rw.Ok (.mode n none [])
  | mode1 {n w : PySem.Str} {ends : List PySem.Str} (h : n ∈ pool) (hw : w ∈ promL) (he : ∀ x ∈ ends, x ∈ pool) (h0 : 0 < ends.length) (nd : ends.Nodup) (hl : ends.length ≤ 8) : Rw.Ok (.mode n (some w) ends)
  | turn0 {m th : PySem.Str} (h : m ∈ pool) (ht : th ∈ pool) : Rw.Ok (.turn m "time" [] th)
  | turn1 {m w th : PySem.Str} {ps : List PySem.Str} (h : m ∈ pool) (hw : w = "some" ∨ w = "all") (hp : ∀ x ∈ ps, x ∈ pool) (h0 : 0 < ps.length) (nd : ps.Nodup) (hl : ps.length ≤ 8) (ht : th ∈ pool) : Rw.Ok (.turn m w ps th)
  | lead {m p e th : PySem.Str} {sends : List PySem.Str} (hm : m ∈ pool ∨ m = "any") (hp : p ∈ pool ∨ p = "any") (he : e ∈ pool ∨ e = "time") (ht : th ∈ pool ∨ th = "same") (hs : ∀ x ∈ sends, x ∈ pool) (hl : sends.length ≤ 8) : Rw.Ok (.lead m p e th sends)
  | house {e : PySem.Str} {tests deeds : List PySem.Str} (he : e ∈ pool ∨ e ∈ plainL) (ht : ∀ x ∈ tests, x ∈ testsL) (hd : ∀ x ∈ deeds, x ∈ deedsL) (hl : tests.length ≤ 8) (hl2 : deeds.length ≤ 8) : Rw.Ok (.house e tests deeds)
/-- the law's tuple -/
def Rw.row : Rw → PV
  | .first p => .tup [.str "first", .str p]
  | .mode n pr ends => .tup [.str "mode", .str n, prV pr, .lst (ends.map .str)]
  | .turn m w ps th => .tup [.str "turn", .str m, .str w, .lst (ps.map .str), .str th]
  | .lead m p e th sends => .tup [.str "lead", .str m, .str p, .str e, .str th, .lst (sends.map .str)]
  | .house e tests deeds => .tup [.str "house", .str e, .lst (tests.map .str), .lst (deeds.map .str)]
/-- the row made -/
def Rw.fs : Rw → List (PySem.Str × PV)
  | .first p => [("place", .str p)]
  | .mode n pr ends => [("name", .str n), ("promise", prV pr), ("ends", .tup (ends.map .str))]
  | .turn m w ps th => [("mode", .str m), ("way", .str w), ("places", .tup (ps.map .str)), ("then", .str th)]
  | .lead m p e th sends => [("mode", .str m), ("place", .str p), ("event", .str e), ("then", .str th), ("sends", .tup (sends.map .str))]
  | .house e tests deeds => [("event", .str e), ("tests", .tup (tests.map .str)), ("deeds", .tup (deeds.map .str))]
def Rw.k : Rw → Nat
  | .first _ => 1
  | .mode _ _ _ => 2
  | .turn _ _ _ _ => 3
  | .lead _ _ _ _ _ => 4
  | .house _ _ _ => 5
def Rw.ins (r : Rw) : PV := .ins r.k r.fs
@[local simp] theorem q_name_promise : (Str.ofString "name" = Str.ofString "promise") = False := by simp only [eq_iff_iff, iff_false]; decide +kernel
@[local simp] theorem q_name_ends : (Str.ofString "name" = Str.ofString "ends") = False := by simp only [eq_iff_iff, iff_false]; decide +kernel
@[local simp] theorem q_promise_ends : (Str.ofString "promise" = Str.ofString "ends") = False := by simp only [eq_iff_iff, iff_false]; decide +kernel
@[local simp] theorem q_mode_way : (Str.ofString "mode" = Str.ofString "way") = False := by simp only [eq_iff_iff, iff_false]; decide +kernel
@[local simp] theorem q_mode_places : (Str.ofString "mode" = Str.ofString "places") = False := by simp only [eq_iff_iff, iff_false]; decide +kernel
@[local simp] theorem q_way_places : (Str.ofString "way" = Str.ofString "places") = False := by simp only [eq_iff_iff, iff_false]; decide +kernel
@[local simp] theorem q_mode_then : (Str.ofString "mode" = Str.ofString "then") = False := by simp only [eq_iff_iff, iff_false]; decide +kernel
@[local simp] theorem q_way_then : (Str.ofString "way" = Str.ofString "then") = False := by simp only [eq_iff_iff, iff_false]; decide +kernel
@[local simp] theorem q_places_then : (Str.ofString "places" = Str.ofString "then") = False := by simp only [eq_iff_iff, iff_false]; decide +kernel
@[local simp] theorem q_mode_place : (Str.ofString "mode" = Str.ofString "place") = False := by simp only [eq_iff_iff, iff_false]; decide +kernel
@[local simp] theorem q_mode_event : (Str.ofString "mode" = Str.ofString "event") = False := by simp only [eq_iff_iff, iff_false]; decide +kernel
@[local simp] theorem q_place_event : (Str.ofString "place" = Str.ofString "event") = False := by simp only [eq_iff_iff, iff_false]; decide +kernel
@[local simp] theorem q_place_then : (Str.ofString "place" = Str.ofString "then") = False := by simp only [eq_iff_iff, iff_false]; decide +kernel
@[local simp] theorem q_event_then : (Str.ofString "event" = Str.ofString "then") = False := by simp only [eq_iff_iff, iff_false]; decide +kernel
@[local simp] theorem q_mode_sends : (Str.ofString "mode" = Str.ofString "sends") = False := by simp only [eq_iff_iff, iff_false]; decide +kernel
@[local simp] theorem q_place_sends : (Str.ofString "place" = Str.ofString "sends") = False := by simp only [eq_iff_iff, iff_false]; decide +kernel
@[local simp] theorem q_event_sends : (Str.ofString "event" = Str.ofString "sends") = False := by simp only [eq_iff_iff, iff_false]; decide +kernel
@[local simp] theorem q_then_sends : (Str.ofString "then" = Str.ofString "sends") = False := by simp only [eq_iff_iff, iff_false]; decide +kernel
@[local simp] theorem q_event_tests : (Str.ofString "event" = Str.ofString "tests") = False := by simp only [eq_iff_iff, iff_false]; decide +kernel
@[local simp] theorem q_event_deeds : (Str.ofString "event" = Str.ofString "deeds") = False := by simp only [eq_iff_iff, iff_false]; decide +kernel
@[local simp] theorem q_tests_deeds : (Str.ofString "tests" = Str.ofString "deeds") = False := by simp only [eq_iff_iff, iff_false]; decide +kernel
theorem nm (s : PySem.Str) : Lib.F_is_name ks [.t (.str s)] = .ret (.t (.bl (nmS s))) [.t (.str s)] := is_name_str ks s
theorem nmP {s : PySem.Str} (h : s ∈ pool) : Lib.F_is_name ks [.t (.str s)] = .ret (.t (.bl true)) [.t (.str s)] := by rw [nm, nm_pool s h]
/-- a sequence of texts -/
structure SeqV (v : PV) (ws : List PySem.Str) : Prop where
  s : seqB v = true
  i : items v = ws.map .str
theorem SeqV.lst (ws : List PySem.Str) : SeqV (.lst (ws.map .str)) ws := ⟨rfl, rfl⟩
theorem SeqV.tup (ws : List PySem.Str) : SeqV (.tup (ws.map .str)) ws := ⟨rfl, rfl⟩
theorem SeqV.dat {v : PV} {ws : List PySem.Str} (h : SeqV v ws) (n : Nat) : dat (n + 1) v = true := by
  cases v with
  | lst xs => rw [TreeL.dat, show xs = ws.map .str from h.i]; exact datL_str _ _
  | tup xs => rw [TreeL.dat, show xs = ws.map .str from h.i]; exact datL_str _ _
  | _ => cases h.s
theorem SeqV.len {v : PV} {ws : List PySem.Str} (h : SeqV v ws) : lenF [v] = some (.t (.int ws.length)) := by
  cases v with
  | lst xs => rw [show xs = ws.map .str from h.i]; simp [lenF]
  | tup xs => rw [show xs = ws.map .str from h.i]; simp [lenF]
  | _ => cases h.s
theorem SeqV.tuple {v : PV} {ws : List PySem.Str} (h : SeqV v ws) : tupleF [v] = some (.t (.tup (ws.map .str))) := by
  cases v with
  | lst xs => rw [show xs = ws.map .str from h.i]; rfl
  | tup xs => rw [show xs = ws.map .str from h.i]; rfl
  | _ => cases h.s
theorem SeqV.walk {v : PV} {ws : List PySem.Str} (h : SeqV v ws) {pn : List Nat} {ea : EvE} {env e1 : En} (q : ea env = .ok (.tr v) e1) : iAny pn ea env = .ok ⟨ws.map .str, .tr .non⟩ e1 := by
  cases v with
  | lst xs => rw [show xs = ws.map .str from h.i] at q; simp [q]
  | tup xs => rw [show xs = ws.map .str from h.i] at q; simp [q]
  | _ => cases h.s
theorem seq_nxR {a b : EvS} {env e : En} (h : a env = .nx e) : sSeq a b env = b e := by unfold sSeq; rw [h]; rfl
theorem first_i {p : PySem.Str} (h : p ∈ pool) : Lib.F_First___init__ ks [.ow (.ins 1 []), .t (.str p)] = .ret (.t .non) [.ow (.ins 1 (Rw.fs (.first p))), .t (.str p)] := by
  have n1 := nmP h
  simp [Lib.F_First___init__, fDef, Lib.ev_First___init__, n1, sFldT, putFP, Rw.fs]
theorem prom_ok {w : PySem.Str} (h : w ∈ promL) : Lib.F_is_word ks [.t (.str w), .t (.tup [.str "made", .str "gone"])] = .ret (.t (.bl true)) [.t (.str w), .t (.tup [.str "made", .str "gone"])] := by
  have e := is_word_s w promL
  have m : (promL.any fun z => z == w) = true := List.any_eq_true.mpr ⟨w, h, by simp⟩
  rw [m] at e
  exact e
theorem way_ok {w : PySem.Str} (h : w ∈ wayL) : Lib.F_is_word ks [.t (.str w), .t (.tup [.str "some", .str "all", .str "time"])] = .ret (.t (.bl true)) [.t (.str w), .t (.tup [.str "some", .str "all", .str "time"])] := by
  have e := is_word_s w wayL
  have m : (wayL.any fun z => z == w) = true := List.any_eq_true.mpr ⟨w, h, by simp⟩
  rw [m] at e
  exact e
theorem nbb (a b : Bool) : neP (.bl a) (.bl b) = some (.bl (!(a == b))) := rfl
theorem mode_i0 {n : PySem.Str} {v : PV} (h : n ∈ pool) (hv : SeqV v []) : Lib.F_Mode___init__ ks [.ow (.ins 2 []), .t (.str n), .t .non, .t v] = .ret (.t .non) [.ow (.ins 2 (Rw.fs (.mode n none []))), .t (.str n), .t .non, .t v] := by
  have n1 := nmP h
  have u := unlike_ok hv.s hv.i (hv.dat 8) (by simp) (by simp) (by simp)
  have lv := hv.len
  have tv := hv.tuple
  simp [Lib.F_Mode___init__, fDef, Lib.ev_Mode___init__, n1, u, lv, tv, nbb, sFldT, putFP, Rw.fs, prV]
theorem mode_i1 {n w : PySem.Str} {ends : List PySem.Str} {v : PV} (h : n ∈ pool) (hw : w ∈ promL) (he : ∀ x ∈ ends, x ∈ pool) (h0 : 0 < ends.length) (nd : ends.Nodup) (hl : ends.length ≤ 8) (hv : SeqV v ends) : Lib.F_Mode___init__ ks [.ow (.ins 2 []), .t (.str n), .t (.str w), .t v] = .ret (.t .non) [.ow (.ins 2 (Rw.fs (.mode n (some w) ends))), .t (.str n), .t (.str w), .t v] := by
  have n1 := nmP h
  have w1 := prom_ok hw
  have u := unlike_ok hv.s hv.i (hv.dat 8) (fun x hx => nm_pool x (he x hx)) nd (by omega)
  have lv := hv.len
  have tv := hv.tuple
  simp [Lib.F_Mode___init__, fDef, Lib.ev_Mode___init__, n1, w1, u, lv, tv, h0, nbb, sFldT, putFP, Rw.fs, prV]
theorem turn_i {m w th : PySem.Str} {ps : List PySem.Str} {v : PV} (h : m ∈ pool) (hw : (w = "time" ∧ ps = []) ∨ ((w = "some" ∨ w = "all") ∧ 0 < ps.length)) (hp : ∀ x ∈ ps, x ∈ pool) (nd : ps.Nodup) (hl : ps.length ≤ 8) (ht : th ∈ pool) (hv : SeqV v ps) :
    Lib.F_Turn___init__ ks [.ow (.ins 3 []), .t (.str m), .t (.str w), .t v, .t (.str th)] = .ret (.t .non) [.ow (.ins 3 (Rw.fs (.turn m w ps th))), .t (.str m), .t (.str w), .t v, .t (.str th)] := by
  have n1 := nmP h
  have n2 := nmP ht
  have wl : w ∈ wayL := by rcases hw with ⟨rfl, _⟩ | ⟨rfl | rfl, _⟩ <;> simp [wayL]
  have w1 := way_ok wl
  have u := unlike_ok hv.s hv.i (hv.dat 8) (fun x hx => nm_pool x (hp x hx)) nd (by omega)
  have lv := hv.len
  have tv := hv.tuple
  have t0 : neP (.str "time") (.str "time") = some (.bl false) := by rw [ne_s]; simp
  have t1 : neP (.str "some") (.str "time") = some (.bl true) := by
    have e : ((Str.ofString "some") == Str.ofString "time") = false := by decide +kernel
    rw [ne_s, e]; rfl
  have t2 : neP (.str "all") (.str "time") = some (.bl true) := by
    have e : ((Str.ofString "all") == Str.ofString "time") = false := by decide +kernel
    rw [ne_s, e]; rfl
  rcases hw with ⟨rfl, rfl⟩ | ⟨rfl | rfl, h0⟩
  · simp [Lib.F_Turn___init__, fDef, Lib.ev_Turn___init__, n1, n2, w1, u, lv, tv, t0, nbb, sFldT, putFP, Rw.fs]
  · simp [Lib.F_Turn___init__, fDef, Lib.ev_Turn___init__, n1, n2, w1, u, lv, tv, t1, h0, nbb, sFldT, putFP, Rw.fs]
  · simp [Lib.F_Turn___init__, fDef, Lib.ev_Turn___init__, n1, n2, w1, u, lv, tv, t2, h0, nbb, sFldT, putFP, Rw.fs]
/-- a name, or the word -/
theorem nm_or {s w : PySem.Str} (hw : nmS w = false) (h : s ∈ pool ∨ s = w) : (∃ b, Lib.F_is_name ks [.t (.str s)] = .ret (.t (.bl b)) [.t (.str s)] ∧ (b = true ∨ (b = false ∧ Lib.F_is_word ks [.t (.str s), .t (.tup [.str w])] = .ret (.t (.bl true)) [.t (.str s), .t (.tup [.str w])]))) := by
  rcases h with h | rfl
  · exact ⟨true, nmP h, .inl rfl⟩
  · refine ⟨false, by rw [nm, hw], .inr ⟨rfl, ?_⟩⟩
    have e := is_word_s s [s]
    simpa using e
theorem lead_i {m p e th : PySem.Str} {sends : List PySem.Str} {v : PV} (hm : m ∈ pool ∨ m = "any") (hp : p ∈ pool ∨ p = "any") (he : e ∈ pool ∨ e = "time") (ht : th ∈ pool ∨ th = "same") (hs : ∀ x ∈ sends, x ∈ pool) (hl : sends.length ≤ 8) (hv : SeqV v sends) :
    Lib.F_Lead___init__ ks [.ow (.ins 4 []), .t (.str m), .t (.str p), .t (.str e), .t (.str th), .t v] = .ret (.t .non) [.ow (.ins 4 (Rw.fs (.lead m p e th sends))), .t (.str m), .t (.str p), .t (.str e), .t (.str th), .t v] := by
  have an := are_names (ks := ks) (n := 8) (hv.dat 8) (by rw [hv.i, List.length_map]; omega)
  have nb : namesB v = true := by
    simp only [namesB, hv.s, hv.i, Bool.true_and, List.all_map, List.all_eq_true]
    exact fun w hw => nm_pool w (hs w hw)
  rw [nb] at an
  have tv := hv.tuple
  obtain ⟨b1, m1, c1⟩ := nm_or (by decide +kernel) hm
  obtain ⟨b2, m2, c2⟩ := nm_or (by decide +kernel) hp
  obtain ⟨b3, m3, c3⟩ := nm_or (by decide +kernel) he
  obtain ⟨b4, m4, c4⟩ := nm_or (by decide +kernel) ht
  have s1 : (sIf (tAn (tNt (tTru (eRes (rCall 1 (Lib.F_is_name ks) [] (aCons (eVar 1) aNil))))) (tNt (tTru (eRes (rCall 2 (Lib.F_is_word ks) [] (aCons (eVar 1) (aCons (eTup (aCons (eCon (.str "any")) aNil)) aNil))))))) (sRaise 20 "word" (eCon (.str "mode"))) sSkip) [some (.ow (.ins 4 [])), some (.t (.str m)), some (.t (.str p)), some (.t (.str e)), some (.t (.str th)), some (.t v)] = .nx [some (.ow (.ins 4 [])), some (.t (.str m)), some (.t (.str p)), some (.t (.str e)), some (.t (.str th)), some (.t v)] := by
    rcases c1 with rfl | ⟨rfl, w⟩ <;> simp [m1, *]
  have s2 : (sIf (tAn (tNt (tTru (eRes (rCall 1 (Lib.F_is_name ks) [] (aCons (eVar 2) aNil))))) (tNt (tTru (eRes (rCall 2 (Lib.F_is_word ks) [] (aCons (eVar 2) (aCons (eTup (aCons (eCon (.str "any")) aNil)) aNil))))))) (sRaise 20 "word" (eCon (.str "place"))) sSkip) [some (.ow (.ins 4 [])), some (.t (.str m)), some (.t (.str p)), some (.t (.str e)), some (.t (.str th)), some (.t v)] = .nx [some (.ow (.ins 4 [])), some (.t (.str m)), some (.t (.str p)), some (.t (.str e)), some (.t (.str th)), some (.t v)] := by
    rcases c2 with rfl | ⟨rfl, w⟩ <;> simp [m2, *]
  have s3 : (sIf (tAn (tNt (tTru (eRes (rCall 1 (Lib.F_is_name ks) [] (aCons (eVar 3) aNil))))) (tNt (tTru (eRes (rCall 2 (Lib.F_is_word ks) [] (aCons (eVar 3) (aCons (eTup (aCons (eCon (.str "time")) aNil)) aNil))))))) (sRaise 20 "word" (eCon (.str "event"))) sSkip) [some (.ow (.ins 4 [])), some (.t (.str m)), some (.t (.str p)), some (.t (.str e)), some (.t (.str th)), some (.t v)] = .nx [some (.ow (.ins 4 [])), some (.t (.str m)), some (.t (.str p)), some (.t (.str e)), some (.t (.str th)), some (.t v)] := by
    rcases c3 with rfl | ⟨rfl, w⟩ <;> simp [m3, *]
  have s4 : (sIf (tAn (tNt (tTru (eRes (rCall 1 (Lib.F_is_name ks) [] (aCons (eVar 4) aNil))))) (tNt (tTru (eRes (rCall 2 (Lib.F_is_word ks) [] (aCons (eVar 4) (aCons (eTup (aCons (eCon (.str "same")) aNil)) aNil))))))) (sRaise 20 "word" (eCon (.str "then"))) sSkip) [some (.ow (.ins 4 [])), some (.t (.str m)), some (.t (.str p)), some (.t (.str e)), some (.t (.str th)), some (.t v)] = .nx [some (.ow (.ins 4 [])), some (.t (.str m)), some (.t (.str p)), some (.t (.str e)), some (.t (.str th)), some (.t v)] := by
    rcases c4 with rfl | ⟨rfl, w⟩ <;> simp [m4, *]
  unfold Lib.F_Lead___init__ Lib.ev_Lead___init__
  rw [fDef_of rfl]
  show (match sSeq _ _ [some (.ow (.ins 4 [])), some (.t (.str m)), some (.t (.str p)), some (.t (.str e)), some (.t (.str th)), some (.t v)] with
    | .nx e => _
    | .rt a e => _
    | .exc x e => _
    | _ => _) = _
  rw [seq_nxR s1, seq_nxR s2, seq_nxR s3, seq_nxR s4]
  simp [an, tv, sFldT, putFP, Rw.fs]
theorem plain_ok {w : PySem.Str} (h : w ∈ plainL) : Lib.F_is_word ks [.t (.str w), .t (.tup [.str "build", .str "leave", .str "work", .str "wipe"])] = .ret (.t (.bl true)) [.t (.str w), .t (.tup [.str "build", .str "leave", .str "work", .str "wipe"])] := by
  have e := is_word_s w plainL
  have m : (plainL.any fun z => z == w) = true := List.any_eq_true.mpr ⟨w, h, by simp⟩
  rw [m] at e
  exact e
theorem house_i {e : PySem.Str} {tests deeds : List PySem.Str} {v u : PV} (he : e ∈ pool ∨ e ∈ plainL) (ht : ∀ x ∈ tests, x ∈ testsL) (hd : ∀ x ∈ deeds, x ∈ deedsL) (hl : tests.length ≤ 8) (hl2 : deeds.length ≤ 8) (hv : SeqV v tests) (hu : SeqV u deeds) :
    Lib.F_House___init__ ks [.ow (.ins 5 []), .t (.str e), .t v, .t u] = .ret (.t .non) [.ow (.ins 5 (Rw.fs (.house e tests deeds))), .t (.str e), .t v, .t u] := by
  have s1 : (sIf (tAn (tNt (tTru (eRes (rCall 1 (Lib.F_is_name ks) [] (aCons (eVar 1) aNil))))) (tNt (tTru (eRes (rCall 2 (Lib.F_is_word ks) [] (aCons (eVar 1) (aCons (eCon (.tup ((["build", "leave", "work", "wipe"] : List PySem.Str).map .str))) aNil))))))) (sRaise 20 "word" (eCon (.str "event"))) sSkip) [some (.ow (.ins 5 [])), some (.t (.str e)), some (.t v), some (.t u), none, none] = .nx [some (.ow (.ins 5 [])), some (.t (.str e)), some (.t v), some (.t u), none, none] := by
    rcases he with h | h
    · have := nmP h
      simp [this]
    · have w1 := plain_ok h
      have n1 := nm e
      cases hn : nmS e with
      | true => rw [hn] at n1; simp [n1]
      | false => rw [hn] at n1; simp [n1, w1]
  have q1 := is_seq (ks := ks) (hv.dat 8)
  rw [hv.s] at q1
  have q2 := is_seq (ks := ks) (hu.dat 8)
  rw [hu.s] at q2
  have c1 := compY (ea := eRes (rCall 1 (Lib.F_is_test ks) [] (aCons (eVar 4) aNil))) (al := alive (.tr .non) (tests.map .str)) (env := [some (.ow (.ins 5 [])), some (.t (.str e)), some (.t v), some (.t u), none, none]) (j := 4) PV.str (fun _ => PV.bl true) rfl rfl tests (by omega) (fun x hx => by simp [test_ok (ht x hx)])
  have c2 := compY (ea := eRes (rCall 1 (Lib.F_is_deed ks) [] (aCons (eVar 5) aNil))) (al := alive (.tr .non) (deeds.map .str)) (env := [some (.ow (.ins 5 [])), some (.t (.str e)), some (.t v), some (.t u), none, none]) (j := 5) PV.str (fun _ => PV.bl true) rfl rfl deeds (by omega) (fun x hx => by simp [deed_ok (hd x hx)])
  have a1 := allF_map (fun _ : PySem.Str => true) tests
  have a2 := allF_map (fun _ : PySem.Str => true) deeds
  have t1 : (tests.all fun _ => true) = true := by simp
  have t2 : (deeds.all fun _ => true) = true := by simp
  rw [t1] at a1
  rw [t2] at a2
  have w1 := hv.walk (pn := [0, 1, 2, 3]) (ea := eVar 2) (env := [some (.ow (.ins 5 [])), some (.t (.str e)), some (.t v), some (.t u), none, none]) (e1 := [some (.ow (.ins 5 [])), some (.t (.str e)), some (.t v), some (.t u), none, none]) (by simp)
  have w2 := hu.walk (pn := [0, 1, 2, 3]) (ea := eVar 3) (env := [some (.ow (.ins 5 [])), some (.t (.str e)), some (.t v), some (.t u), none, none]) (e1 := [some (.ow (.ins 5 [])), some (.t (.str e)), some (.t v), some (.t u), none, none]) (by simp)
  have tv := hv.tuple
  have tu := hu.tuple
  unfold Lib.F_House___init__ Lib.ev_House___init__
  rw [fDef_of rfl]
  show (match sSeq _ _ [some (.ow (.ins 5 [])), some (.t (.str e)), some (.t v), some (.t u), none, none] with
    | .nx e => _
    | .rt a e => _
    | .exc x e => _
    | _ => _) = _
  rw [seq_nxR s1]
  simp [-iAny, w1, w2, q1, q2, c1, c2, a1, a2, tv, tu, sFldT, putFP, Rw.fs]
/-! ### made -/
@[local simp] theorem k_first_mode : (Str.ofString "first" == Str.ofString "mode") = false := by decide +kernel
@[local simp] theorem k_first_turn : (Str.ofString "first" == Str.ofString "turn") = false := by decide +kernel
@[local simp] theorem k_first_lead : (Str.ofString "first" == Str.ofString "lead") = false := by decide +kernel
@[local simp] theorem k_first_house : (Str.ofString "first" == Str.ofString "house") = false := by decide +kernel
@[local simp] theorem k_mode_first : (Str.ofString "mode" == Str.ofString "first") = false := by decide +kernel
@[local simp] theorem k_mode_turn : (Str.ofString "mode" == Str.ofString "turn") = false := by decide +kernel
@[local simp] theorem k_mode_lead : (Str.ofString "mode" == Str.ofString "lead") = false := by decide +kernel
@[local simp] theorem k_mode_house : (Str.ofString "mode" == Str.ofString "house") = false := by decide +kernel
@[local simp] theorem k_turn_first : (Str.ofString "turn" == Str.ofString "first") = false := by decide +kernel
@[local simp] theorem k_turn_mode : (Str.ofString "turn" == Str.ofString "mode") = false := by decide +kernel
@[local simp] theorem k_turn_lead : (Str.ofString "turn" == Str.ofString "lead") = false := by decide +kernel
@[local simp] theorem k_turn_house : (Str.ofString "turn" == Str.ofString "house") = false := by decide +kernel
@[local simp] theorem k_lead_first : (Str.ofString "lead" == Str.ofString "first") = false := by decide +kernel
@[local simp] theorem k_lead_mode : (Str.ofString "lead" == Str.ofString "mode") = false := by decide +kernel
@[local simp] theorem k_lead_turn : (Str.ofString "lead" == Str.ofString "turn") = false := by decide +kernel
@[local simp] theorem k_lead_house : (Str.ofString "lead" == Str.ofString "house") = false := by decide +kernel
@[local simp] theorem k_house_first : (Str.ofString "house" == Str.ofString "first") = false := by decide +kernel
@[local simp] theorem k_house_mode : (Str.ofString "house" == Str.ofString "mode") = false := by decide +kernel
@[local simp] theorem k_house_turn : (Str.ofString "house" == Str.ofString "turn") = false := by decide +kernel
@[local simp] theorem k_house_lead : (Str.ofString "house" == Str.ofString "lead") = false := by decide +kernel
theorem eq_k (a b : PySem.Str) : eqP (.str a) (.str b) = some (.bl (a == b)) := rfl
theorem made_ok {r : Rw} (h : r.Ok) : Lib.F_h_made ks [.t r.row] = .ret (.t r.ins) [.t r.row] := by
  have l3 : ∀ a b c d : PV, ixP (.tup [a, b, c, d]) (.int 3) = some d := fun _ _ _ _ => rfl
  have l5 : ∀ a b c d e : PV, ixP (.tup [a, b, c, d, e]) (.int 3) = some d ∧ ixP (.tup [a, b, c, d, e]) (.int 4) = some e := fun _ _ _ _ _ => ⟨rfl, rfl⟩
  have l6 : ∀ a b c d e f : PV, ixP (.tup [a, b, c, d, e, f]) (.int 3) = some d ∧ ixP (.tup [a, b, c, d, e, f]) (.int 4) = some e ∧ ixP (.tup [a, b, c, d, e, f]) (.int 5) = some f := fun _ _ _ _ _ _ => ⟨rfl, rfl, rfl⟩
  cases h with
  | first h => simp [Lib.F_h_made, fDef, Lib.ev_h_made, Rw.row, ix0, ix1, eq_k, rMake, first_i h, Rw.ins, Rw.k]
  | mode0 h =>
    have i := mode_i0 h (SeqV.lst [])
    simp only [List.map_nil] at i
    simp [Lib.F_h_made, fDef, Lib.ev_h_made, Rw.row, prV, ix0, ix1, ix2, l3, eq_k, rMake, i, Rw.ins, Rw.k]
  | mode1 h hw he h0 nd hl =>
    have i := mode_i1 h hw he h0 nd hl (SeqV.lst _)
    simp [Lib.F_h_made, fDef, Lib.ev_h_made, Rw.row, prV, ix0, ix1, ix2, l3, eq_k, rMake, i, Rw.ins, Rw.k]
  | turn0 h ht =>
    have i := turn_i h (.inl ⟨rfl, rfl⟩) (by simp) (by simp) (by simp) ht (SeqV.lst [])
    simp only [List.map_nil] at i
    simp [Lib.F_h_made, fDef, Lib.ev_h_made, Rw.row, ix0, ix1, ix2, l5, eq_k, rMake, i, Rw.ins, Rw.k]
  | turn1 h hw hp h0 nd hl ht =>
    have i := turn_i h (.inr ⟨hw, h0⟩) hp nd hl ht (SeqV.lst _)
    simp [Lib.F_h_made, fDef, Lib.ev_h_made, Rw.row, ix0, ix1, ix2, l5, eq_k, rMake, i, Rw.ins, Rw.k]
  | lead hm hp he ht hs hl =>
    have i := lead_i hm hp he ht hs hl (SeqV.lst _)
    simp [Lib.F_h_made, fDef, Lib.ev_h_made, Rw.row, ix0, ix1, ix2, l6, eq_k, rMake, i, Rw.ins, Rw.k]
  | house he ht hd hl hl2 =>
    have i := house_i he ht hd hl hl2 (SeqV.lst _) (SeqV.lst _)
    simp [Lib.F_h_made, fDef, Lib.ev_h_made, Rw.row, ix0, ix1, ix2, l3, eq_k, rMake, i, Rw.ins, Rw.k]
/-! ### texts -/
def sentL (sends : List PySem.Str) : List PySem.Str := if sends = [] then [] else ["send", Txt.join " and " sends]
def askL (tests : List PySem.Str) : List PySem.Str := if tests = [] then [] else ["if", Txt.join " and " tests]
def doneL (deeds : List PySem.Str) : List PySem.Str := if deeds = [] then [] else ["do", Txt.join " then " deeds]
def saidL : Option PySem.Str → List PySem.Str
  | none => []
  | some s => [s]
def Rw.parts : Rw → List PySem.Str
  | .first p => ["first", p]
  | .mode n pr ends => "mode" :: n :: (saidL pr ++ ends)
  | .turn m w ps th => "turn" :: m :: w :: (ps ++ [Str.ofString "to", th])
  | .lead m p e th sends => "lead" :: m :: p :: e :: "to" :: th :: sentL sends
  | .house e tests deeds => "house" :: e :: (askL tests ++ doneL deeds)
def Rw.txt (r : Rw) : PySem.Str := Txt.join " " r.parts
theorem joinM_ok {a : PySem.Str} {ss : List PySem.Str} (ha : a.length ≤ 10) (h : ∀ s ∈ ss, s.length ≤ 1000) (hl : ss.length ≤ 100) : joinM (.str a) [.lst (ss.map .str)] = some (.t (.str (Txt.join a ss))) :=
  join_ok (k := 1000) h (by
    have : ss.length * a.length ≤ 100 * 10 := Nat.mul_le_mul hl ha
    omega)
theorem joinM_okT {a : PySem.Str} {ss : List PySem.Str} (ha : a.length ≤ 10) (h : ∀ s ∈ ss, s.length ≤ 1000) (hl : ss.length ≤ 100) : joinM (.str a) [.tup (ss.map .str)] = some (.t (.str (Txt.join a ss))) :=
  join_okT (k := 1000) h (by
    have : ss.length * a.length ≤ 100 * 10 := Nat.mul_le_mul hl ha
    omega)
theorem pool_len {s : PySem.Str} (h : s ∈ pool) : s.length ≤ 20 := by
  have := nm_pool s h
  unfold nmS at this
  simp only [Bool.and_eq_true, decide_eq_true_iff] at this
  omega
theorem tests_len : (testsL.all fun t => decide (t.length ≤ 20)) = true := by kernel_rfl
theorem deeds_len : (deedsL.all fun t => decide (t.length ≤ 20)) = true := by kernel_rfl
theorem test_len {s : PySem.Str} (h : s ∈ testsL) : s.length ≤ 20 := of_decide_eq_true (List.all_eq_true.mp tests_len s h)
theorem deed_len {s : PySem.Str} (h : s ∈ deedsL) : s.length ≤ 20 := of_decide_eq_true (List.all_eq_true.mp deeds_len s h)
theorem join_le {a : PySem.Str} {ss : List PySem.Str} (ha : a.length ≤ 10) (h : ∀ s ∈ ss, s.length ≤ 20) (hl : ss.length ≤ 8) : (Txt.join a ss).length ≤ 1000 := by
  have h1 := join_lenS (a := a) h
  have : ss.length * a.length ≤ 8 * 10 := Nat.mul_le_mul hl ha
  omega
theorem l_and : (Str.ofString " and ").length ≤ 10 := by decide +kernel
theorem l_then : (Str.ofString " then ").length ≤ 10 := by decide +kernel
theorem l_gap : (Str.ofString " ").length ≤ 10 := by decide +kernel
/-- all words that a row's text has, short -/
theorem parts_short {r : Rw} (h : r.Ok) : (∀ s ∈ r.parts, s.length ≤ 1000) ∧ r.parts.length ≤ 40 := by
  have c : ∀ s : PySem.Str, s ∈ (["first", "mode", "turn", "lead", "house", "to", "send", "if", "do", "made", "gone", "some", "all", "time", "any", "same", "build", "leave", "work", "wipe"] : List PySem.Str) → s.length ≤ 1000 := by
    intro s hs
    have : ((["first", "mode", "turn", "lead", "house", "to", "send", "if", "do", "made", "gone", "some", "all", "time", "any", "same", "build", "leave", "work", "wipe"] : List PySem.Str).all fun s => decide (s.length ≤ 1000)) = true := by decide +kernel
    exact of_decide_eq_true (List.all_eq_true.mp this s hs)
  have pl : ∀ {s : PySem.Str}, s ∈ pool → s.length ≤ 1000 := fun h => Nat.le_trans (pool_len h) (by decide)
  cases h with
  | first h =>
    refine ⟨fun s hs => ?_, by simp [Rw.parts]⟩
    simp only [Rw.parts, List.mem_cons, List.not_mem_nil, or_false] at hs
    rcases hs with rfl | rfl
    · exact c _ (by simp)
    · exact pl h
  | mode0 h =>
    refine ⟨fun s hs => ?_, by simp [Rw.parts, saidL]⟩
    simp only [Rw.parts, saidL, List.append_nil, List.mem_cons, List.not_mem_nil, or_false] at hs
    rcases hs with rfl | rfl
    · exact c _ (by simp)
    · exact pl h
  | mode1 h hw he h0 nd hl =>
    refine ⟨fun s hs => ?_, by simp [Rw.parts, saidL]; omega⟩
    simp only [Rw.parts, saidL, List.cons_append, List.nil_append, List.mem_cons] at hs
    rcases hs with rfl | rfl | rfl | hs
    · exact c _ (by simp)
    · exact pl h
    · simp only [promL, List.mem_cons, List.not_mem_nil, or_false] at hw
      rcases hw with rfl | rfl <;> exact c _ (by simp)
    · exact pl (he s hs)
  | turn0 h ht =>
    refine ⟨fun s hs => ?_, by simp [Rw.parts]⟩
    simp only [Rw.parts, List.nil_append, List.mem_cons, List.not_mem_nil, or_false] at hs
    rcases hs with rfl | rfl | rfl | rfl | rfl
    · exact c _ (by simp)
    · exact pl h
    · exact c _ (by simp)
    · exact c _ (by simp)
    · exact pl ht
  | turn1 h hw hp h0 nd hl ht =>
    refine ⟨fun s hs => ?_, by simp [Rw.parts]; omega⟩
    simp only [Rw.parts, List.mem_cons, List.mem_append, List.not_mem_nil, or_false] at hs
    rcases hs with rfl | rfl | rfl | hs | rfl | rfl
    · exact c _ (by simp)
    · exact pl h
    · rcases hw with rfl | rfl <;> exact c _ (by simp)
    · exact pl (hp s hs)
    · exact c _ (by simp)
    · exact pl ht
  | lead hm hp he ht hs' hl =>
    refine ⟨fun s hs => ?_, by simp [Rw.parts, sentL]; split <;> simp⟩
    simp only [Rw.parts, List.mem_cons] at hs
    rcases hs with rfl | rfl | rfl | rfl | rfl | rfl | hs
    · exact c _ (by simp)
    · rcases hm with h | rfl
      · exact pl h
      · exact c _ (by simp)
    · rcases hp with h | rfl
      · exact pl h
      · exact c _ (by simp)
    · rcases he with h | rfl
      · exact pl h
      · exact c _ (by simp)
    · exact c _ (by simp)
    · rcases ht with h | rfl
      · exact pl h
      · exact c _ (by simp)
    · unfold sentL at hs
      split at hs
      · cases hs
      · simp only [List.mem_cons, List.not_mem_nil, or_false] at hs
        rcases hs with rfl | rfl
        · exact c _ (by simp)
        · exact join_le l_and (fun s h => pool_len (hs' s h)) hl
  | house he ht hd hl hl2 =>
    refine ⟨fun s hs => ?_, by simp [Rw.parts, askL, doneL]; split <;> split <;> simp⟩
    simp only [Rw.parts, List.mem_cons, List.mem_append] at hs
    rcases hs with rfl | rfl | hs | hs
    · exact c _ (by simp)
    · rcases he with h | h
      · exact pl h
      · simp only [plainL, List.mem_cons, List.not_mem_nil, or_false] at h
        rcases h with rfl | rfl | rfl | rfl <;> exact c _ (by simp)
    · unfold askL at hs
      split at hs
      · cases hs
      · simp only [List.mem_cons, List.not_mem_nil, or_false] at hs
        rcases hs with rfl | rfl
        · exact c _ (by simp)
        · exact join_le l_and (fun s h => test_len (ht s h)) hl
    · unfold doneL at hs
      split at hs
      · cases hs
      · simp only [List.mem_cons, List.not_mem_nil, or_false] at hs
        rcases hs with rfl | rfl
        · exact c _ (by simp)
        · exact join_le l_then (fun s h => deed_len (hd s h)) hl2
@[local simp] theorem v_promise_name : (Str.ofString "promise" == Str.ofString "name") = false := by decide +kernel
@[local simp] theorem v_ends_name : (Str.ofString "ends" == Str.ofString "name") = false := by decide +kernel
@[local simp] theorem v_ends_promise : (Str.ofString "ends" == Str.ofString "promise") = false := by decide +kernel
@[local simp] theorem v_way_mode : (Str.ofString "way" == Str.ofString "mode") = false := by decide +kernel
@[local simp] theorem v_places_mode : (Str.ofString "places" == Str.ofString "mode") = false := by decide +kernel
@[local simp] theorem v_places_way : (Str.ofString "places" == Str.ofString "way") = false := by decide +kernel
@[local simp] theorem v_then_mode : (Str.ofString "then" == Str.ofString "mode") = false := by decide +kernel
@[local simp] theorem v_then_way : (Str.ofString "then" == Str.ofString "way") = false := by decide +kernel
@[local simp] theorem v_then_places : (Str.ofString "then" == Str.ofString "places") = false := by decide +kernel
@[local simp] theorem v_place_mode : (Str.ofString "place" == Str.ofString "mode") = false := by decide +kernel
@[local simp] theorem v_event_mode : (Str.ofString "event" == Str.ofString "mode") = false := by decide +kernel
@[local simp] theorem v_event_place : (Str.ofString "event" == Str.ofString "place") = false := by decide +kernel
@[local simp] theorem v_then_place : (Str.ofString "then" == Str.ofString "place") = false := by decide +kernel
@[local simp] theorem v_then_event : (Str.ofString "then" == Str.ofString "event") = false := by decide +kernel
@[local simp] theorem v_sends_mode : (Str.ofString "sends" == Str.ofString "mode") = false := by decide +kernel
@[local simp] theorem v_sends_place : (Str.ofString "sends" == Str.ofString "place") = false := by decide +kernel
@[local simp] theorem v_sends_event : (Str.ofString "sends" == Str.ofString "event") = false := by decide +kernel
@[local simp] theorem v_sends_then : (Str.ofString "sends" == Str.ofString "then") = false := by decide +kernel
@[local simp] theorem v_tests_event : (Str.ofString "tests" == Str.ofString "event") = false := by decide +kernel
@[local simp] theorem v_deeds_event : (Str.ofString "deeds" == Str.ofString "event") = false := by decide +kernel
@[local simp] theorem v_deeds_tests : (Str.ofString "deeds" == Str.ofString "tests") = false := by decide +kernel
theorem parts_join {r : Rw} (h : r.Ok) : joinM (.str " ") [.lst (r.parts.map .str)] = some (.t (.str r.txt)) := joinM_ok l_gap (parts_short h).1 (Nat.le_trans (parts_short h).2 (by decide))
theorem eq_nilT (ss : List PySem.Str) : eqP (.tup (ss.map .str)) (.tup []) = some (.bl (decide (ss = []))) := by
  have d : dat 64 (.tup (ss.map .str)) = true := by rw [dat]; exact datL_str _ _
  have e : dat 64 (.tup []) = true := rfl
  unfold eqP
  rw [d, e]
  cases ss with
  | nil => rfl
  | cons x r => simp [peq, peqL]
theorem fstr_first (p : PySem.Str) (h : p.length ≤ 1000) : (Str.empty ++ Str.ofString "first ") ++ p = Rw.txt (.first p) := by
  apply str_ext
  unfold Rw.txt Rw.parts
  rw [tl_joinS, TL.tl_append, TL.tl_append, gap_tl]
  have e1 : TL.tl Str.empty = [] := rfl
  have e2 : TL.tl (Str.ofString "first ") = TL.tl (Str.ofString "first") ++ [32] := by decide +kernel
  rw [e1, e2]
  simp [TL.joinL]
theorem str_first {p : PySem.Str} (h : Rw.Ok (.first p)) : Lib.F_First___str__ ks [.t (Rw.ins (.first p))] = .ret (.t (.str (Rw.txt (.first p)))) [.t (Rw.ins (.first p))] := by
  have l1 : (Str.ofString "first ").length = 6 := by decide +kernel
  have l0 : Str.empty.length = 0 := rfl
  have hp : p.length ≤ 1000 := (parts_short h).1 p (by simp [Rw.parts])
  have e := fstr_first p hp
  have l2 : (Str.empty ++ Str.ofString "first ").length = 6 := by rw [add_length, l1, l0]
  have l3 : 6 + p.length ≤ 1000000 := by omega
  simp [Lib.F_First___str__, fDef, Lib.ev_First___str__, Rw.ins, Rw.k, Rw.fs, jF, l1, l0, l2, l3, e]
theorem str_mode {n : PySem.Str} {pr : Option PySem.Str} {ends : List PySem.Str} (h : Rw.Ok (.mode n pr ends)) : Lib.F_Mode___str__ ks [.t (Rw.ins (.mode n pr ends))] = .ret (.t (.str (Rw.txt (.mode n pr ends)))) [.t (Rw.ins (.mode n pr ends))] := by
  have j := parts_join h
  have l := (parts_short h).2
  cases pr with
  | none =>
    simp only [Rw.parts, saidL, List.map_cons, List.nil_append] at j l
    have l1 : 1 + (1 + ends.length) ≤ 1000000 := by simp at l; omega
    have l2 : ends.length + 1 + 1 ≤ 1000000 := by simp at l; omega
    simp [Lib.F_Mode___str__, fDef, Lib.ev_Mode___str__, Rw.ins, Rw.k, Rw.fs, prV, List.lookup, trees_mapV, trees_map0, Function.comp_def, l1, l2, j]
  | some w =>
    simp only [Rw.parts, saidL, List.map_cons, List.cons_append, List.nil_append] at j l
    have l2 : ends.length + 1 + 1 + 1 ≤ 1000000 := by simp at l; omega
    simp [Lib.F_Mode___str__, fDef, Lib.ev_Mode___str__, Rw.ins, Rw.k, Rw.fs, prV, List.lookup, trees_mapV, trees_map0, Function.comp_def, l2, j]
end Pr
end
section
/-! PRx: rows shown, their texts, read again; plain Lean. -/
namespace Pr
open PySem PySem.Spec PyProof.Rows L2 TreeL Pw
@[local simp] theorem LIM_eqX : LIM = 1000000 := rfl
@[local simp] theorem lk1 : ((Str.ofString "way") == (Str.ofString "mode")) = false := by decide +kernel
@[local simp] theorem lk2 : ((Str.ofString "places") == (Str.ofString "mode")) = false := by decide +kernel
@[local simp] theorem lk3 : ((Str.ofString "places") == (Str.ofString "way")) = false := by decide +kernel
@[local simp] theorem lk4 : ((Str.ofString "then") == (Str.ofString "mode")) = false := by decide +kernel
@[local simp] theorem lk5 : ((Str.ofString "then") == (Str.ofString "way")) = false := by decide +kernel
@[local simp] theorem lk6 : ((Str.ofString "then") == (Str.ofString "places")) = false := by decide +kernel
@[local simp] theorem lk7 : ((Str.ofString "place") == (Str.ofString "mode")) = false := by decide +kernel
@[local simp] theorem lk8 : ((Str.ofString "event") == (Str.ofString "mode")) = false := by decide +kernel
@[local simp] theorem lk9 : ((Str.ofString "event") == (Str.ofString "place")) = false := by decide +kernel
@[local simp] theorem lk10 : ((Str.ofString "then") == (Str.ofString "place")) = false := by decide +kernel
@[local simp] theorem lk11 : ((Str.ofString "then") == (Str.ofString "event")) = false := by decide +kernel
@[local simp] theorem lk12 : ((Str.ofString "sends") == (Str.ofString "mode")) = false := by decide +kernel
@[local simp] theorem lk13 : ((Str.ofString "sends") == (Str.ofString "place")) = false := by decide +kernel
@[local simp] theorem lk14 : ((Str.ofString "sends") == (Str.ofString "event")) = false := by decide +kernel
@[local simp] theorem lk15 : ((Str.ofString "sends") == (Str.ofString "then")) = false := by decide +kernel
@[local simp] theorem lk16 : ((Str.ofString "tests") == (Str.ofString "event")) = false := by decide +kernel
@[local simp] theorem lk17 : ((Str.ofString "deeds") == (Str.ofString "event")) = false := by decide +kernel
@[local simp] theorem lk18 : ((Str.ofString "deeds") == (Str.ofString "tests")) = false := by decide +kernel
theorem trees_two (a b : PV) : ∀ ps : List PySem.Str, trees (ps.map (fun x => Vl.tr (PV.str x)) ++ [Vl.tr a, Vl.tr b]) = some (ps.map PV.str ++ [a, b])
  | [] => rfl
  | x :: xs => by simp [trees_two a b xs]
theorem str_turn {m w th : PySem.Str} {ps : List PySem.Str} (h : Rw.Ok (.turn m w ps th)) : Lib.F_Turn___str__ ks [.t (Rw.ins (.turn m w ps th))] = .ret (.t (.str (Rw.txt (.turn m w ps th)))) [.t (Rw.ins (.turn m w ps th))] := by
  have j := parts_join h
  have l := (parts_short h).2
  simp only [Rw.parts, List.map_cons, List.map_append, List.map_nil] at j l
  have l2 : ps.length + 2 + 1 + 1 + 1 ≤ 1000000 := by simp at l; omega
  simp [Lib.F_Turn___str__, fDef, Lib.ev_Turn___str__, Rw.ins, Rw.k, Rw.fs, List.lookup, trees_two, Function.comp_def, l2, j]
theorem str_lead {m p e th : PySem.Str} {sends : List PySem.Str} (h : Rw.Ok (.lead m p e th sends)) (hs : ∀ x ∈ sends, x ∈ pool) (hl : sends.length ≤ 8) : Lib.F_Lead___str__ ks [.t (Rw.ins (.lead m p e th sends))] = .ret (.t (.str (Rw.txt (.lead m p e th sends)))) [.t (Rw.ins (.lead m p e th sends))] := by
  have j := parts_join h
  have en := eq_nilT sends
  have ja := joinM_okT (ss := sends) l_and (fun s h => Nat.le_trans (pool_len (hs s h)) (by decide)) (by omega)
  cases sends with
  | nil =>
    simp only [Rw.parts, sentL, if_true, List.map_cons, List.map_nil] at j
    simp at en
    simp [Lib.F_Lead___str__, fDef, Lib.ev_Lead___str__, Rw.ins, Rw.k, Rw.fs, List.lookup, en, j]
  | cons x r =>
    simp only [Rw.parts, sentL, if_false, reduceCtorEq, List.map_cons, List.map_nil] at j
    simp at en ja
    simp [Lib.F_Lead___str__, fDef, Lib.ev_Lead___str__, Rw.ins, Rw.k, Rw.fs, List.lookup, en, ja, j]
theorem str_house {e : PySem.Str} {tests deeds : List PySem.Str} (h : Rw.Ok (.house e tests deeds)) (ht : ∀ x ∈ tests, x ∈ testsL) (hd : ∀ x ∈ deeds, x ∈ deedsL) (hl : tests.length ≤ 8) (hl2 : deeds.length ≤ 8) : Lib.F_House___str__ ks [.t (Rw.ins (.house e tests deeds))] = .ret (.t (.str (Rw.txt (.house e tests deeds)))) [.t (Rw.ins (.house e tests deeds))] := by
  have j := parts_join h
  have en := eq_nilT tests
  have en2 := eq_nilT deeds
  have ja := joinM_okT (ss := tests) l_and (fun s h => Nat.le_trans (test_len (ht s h)) (by decide)) (by omega)
  have jb := joinM_okT (ss := deeds) l_then (fun s h => Nat.le_trans (deed_len (hd s h)) (by decide)) (by omega)
  cases tests with
  | nil =>
    cases deeds with
    | nil =>
      simp only [Rw.parts, askL, doneL, if_true, List.nil_append, List.map_cons, List.map_nil] at j
      simp at en en2
      simp [Lib.F_House___str__, fDef, Lib.ev_House___str__, Rw.ins, Rw.k, Rw.fs, List.lookup, en, en2, j]
    | cons y q =>
      simp only [Rw.parts, askL, doneL, if_true, if_false, reduceCtorEq, List.nil_append, List.map_cons, List.map_nil] at j
      simp at en en2 jb
      simp [Lib.F_House___str__, fDef, Lib.ev_House___str__, Rw.ins, Rw.k, Rw.fs, List.lookup, en, en2, jb, j]
  | cons x r =>
    cases deeds with
    | nil =>
      simp only [Rw.parts, askL, doneL, if_true, if_false, reduceCtorEq, List.cons_append, List.nil_append, List.map_cons, List.map_nil] at j
      simp at en en2 ja
      simp [Lib.F_House___str__, fDef, Lib.ev_House___str__, Rw.ins, Rw.k, Rw.fs, List.lookup, en, en2, ja, j]
    | cons y q =>
      simp only [Rw.parts, askL, doneL, if_true, if_false, reduceCtorEq, List.cons_append, List.nil_append, List.map_cons, List.map_nil] at j
      simp at en en2 ja jb
      simp [Lib.F_House___str__, fDef, Lib.ev_House___str__, Rw.ins, Rw.k, Rw.fs, List.lookup, en, en2, ja, jb, j]
/-! ### the law's own text -/
@[local simp] theorem kx_first_mode : (Str.ofString "first" == Str.ofString "mode") = false := by decide +kernel
@[local simp] theorem kx_first_turn : (Str.ofString "first" == Str.ofString "turn") = false := by decide +kernel
@[local simp] theorem kx_first_lead : (Str.ofString "first" == Str.ofString "lead") = false := by decide +kernel
@[local simp] theorem kx_first_house : (Str.ofString "first" == Str.ofString "house") = false := by decide +kernel
@[local simp] theorem kx_mode_first : (Str.ofString "mode" == Str.ofString "first") = false := by decide +kernel
@[local simp] theorem kx_mode_turn : (Str.ofString "mode" == Str.ofString "turn") = false := by decide +kernel
@[local simp] theorem kx_mode_lead : (Str.ofString "mode" == Str.ofString "lead") = false := by decide +kernel
@[local simp] theorem kx_mode_house : (Str.ofString "mode" == Str.ofString "house") = false := by decide +kernel
@[local simp] theorem kx_turn_first : (Str.ofString "turn" == Str.ofString "first") = false := by decide +kernel
@[local simp] theorem kx_turn_mode : (Str.ofString "turn" == Str.ofString "mode") = false := by decide +kernel
@[local simp] theorem kx_turn_lead : (Str.ofString "turn" == Str.ofString "lead") = false := by decide +kernel
@[local simp] theorem kx_turn_house : (Str.ofString "turn" == Str.ofString "house") = false := by decide +kernel
@[local simp] theorem kx_lead_first : (Str.ofString "lead" == Str.ofString "first") = false := by decide +kernel
@[local simp] theorem kx_lead_mode : (Str.ofString "lead" == Str.ofString "mode") = false := by decide +kernel
@[local simp] theorem kx_lead_turn : (Str.ofString "lead" == Str.ofString "turn") = false := by decide +kernel
@[local simp] theorem kx_lead_house : (Str.ofString "lead" == Str.ofString "house") = false := by decide +kernel
@[local simp] theorem kx_house_first : (Str.ofString "house" == Str.ofString "first") = false := by decide +kernel
@[local simp] theorem kx_house_mode : (Str.ofString "house" == Str.ofString "mode") = false := by decide +kernel
@[local simp] theorem kx_house_turn : (Str.ofString "house" == Str.ofString "turn") = false := by decide +kernel
@[local simp] theorem kx_house_lead : (Str.ofString "house" == Str.ofString "lead") = false := by decide +kernel
@[local simp] theorem ky_first_mode : (Str.ofString "first" = Str.ofString "mode") = False := by simp only [eq_iff_iff, iff_false]; decide +kernel
@[local simp] theorem ky_first_turn : (Str.ofString "first" = Str.ofString "turn") = False := by simp only [eq_iff_iff, iff_false]; decide +kernel
@[local simp] theorem ky_first_lead : (Str.ofString "first" = Str.ofString "lead") = False := by simp only [eq_iff_iff, iff_false]; decide +kernel
@[local simp] theorem ky_first_house : (Str.ofString "first" = Str.ofString "house") = False := by simp only [eq_iff_iff, iff_false]; decide +kernel
@[local simp] theorem ky_mode_first : (Str.ofString "mode" = Str.ofString "first") = False := by simp only [eq_iff_iff, iff_false]; decide +kernel
@[local simp] theorem ky_mode_turn : (Str.ofString "mode" = Str.ofString "turn") = False := by simp only [eq_iff_iff, iff_false]; decide +kernel
@[local simp] theorem ky_mode_lead : (Str.ofString "mode" = Str.ofString "lead") = False := by simp only [eq_iff_iff, iff_false]; decide +kernel
@[local simp] theorem ky_mode_house : (Str.ofString "mode" = Str.ofString "house") = False := by simp only [eq_iff_iff, iff_false]; decide +kernel
@[local simp] theorem ky_turn_first : (Str.ofString "turn" = Str.ofString "first") = False := by simp only [eq_iff_iff, iff_false]; decide +kernel
@[local simp] theorem ky_turn_mode : (Str.ofString "turn" = Str.ofString "mode") = False := by simp only [eq_iff_iff, iff_false]; decide +kernel
@[local simp] theorem ky_turn_lead : (Str.ofString "turn" = Str.ofString "lead") = False := by simp only [eq_iff_iff, iff_false]; decide +kernel
@[local simp] theorem ky_turn_house : (Str.ofString "turn" = Str.ofString "house") = False := by simp only [eq_iff_iff, iff_false]; decide +kernel
@[local simp] theorem ky_lead_first : (Str.ofString "lead" = Str.ofString "first") = False := by simp only [eq_iff_iff, iff_false]; decide +kernel
@[local simp] theorem ky_lead_mode : (Str.ofString "lead" = Str.ofString "mode") = False := by simp only [eq_iff_iff, iff_false]; decide +kernel
@[local simp] theorem ky_lead_turn : (Str.ofString "lead" = Str.ofString "turn") = False := by simp only [eq_iff_iff, iff_false]; decide +kernel
@[local simp] theorem ky_lead_house : (Str.ofString "lead" = Str.ofString "house") = False := by simp only [eq_iff_iff, iff_false]; decide +kernel
@[local simp] theorem ky_house_first : (Str.ofString "house" = Str.ofString "first") = False := by simp only [eq_iff_iff, iff_false]; decide +kernel
@[local simp] theorem ky_house_mode : (Str.ofString "house" = Str.ofString "mode") = False := by simp only [eq_iff_iff, iff_false]; decide +kernel
@[local simp] theorem ky_house_turn : (Str.ofString "house" = Str.ofString "turn") = False := by simp only [eq_iff_iff, iff_false]; decide +kernel
@[local simp] theorem ky_house_lead : (Str.ofString "house" = Str.ofString "lead") = False := by simp only [eq_iff_iff, iff_false]; decide +kernel
theorem tlen (a b : PySem.Str) : (a ++ b).length = a.length + b.length := add_length a b
theorem app_words {a : List PySem.Str} {y w x : PySem.Str} (ha : a ≠ []) (ey : TL.tl y = 32 :: (TL.tl w ++ [32])) : Txt.join " " a ++ y ++ x = Txt.join " " (a ++ [w, x]) := by
  apply str_ext
  rw [TL.tl_append, TL.tl_append, tl_joinS, tl_joinS, gap_tl, ey, List.map_append, joinL_app (by simpa using ha) (by simp)]
  simp [TL.joinL]
theorem head_words {y w x : PySem.Str} (ey : TL.tl y = TL.tl w ++ [32]) : y ++ x = Txt.join " " [w, x] := by
  apply str_ext
  rw [TL.tl_append, tl_joinS, gap_tl, ey]
  simp [TL.joinL]
theorem ls (ss : List PySem.Str) : eqP (.lst (ss.map .str)) (.lst []) = some (.bl (decide (ss = []))) := by
  rw [eq_nil (datL_str _ _), List.isEmpty_map]
  cases ss <;> simp
theorem text_ok {r : Rw} (h : r.Ok) : Lib.F_h_text [.t r.row] = .ret (.t (.str r.txt)) [.t r.row] := by
  have l3 : ∀ a b c d : PV, ixP (.tup [a, b, c, d]) (.int 3) = some d := fun _ _ _ _ => rfl
  have l5 : ∀ a b c d e : PV, ixP (.tup [a, b, c, d, e]) (.int 3) = some d ∧ ixP (.tup [a, b, c, d, e]) (.int 4) = some e := fun _ _ _ _ _ => ⟨rfl, rfl⟩
  have l6 : ∀ a b c d e f : PV, ixP (.tup [a, b, c, d, e, f]) (.int 3) = some d ∧ ixP (.tup [a, b, c, d, e, f]) (.int 4) = some e ∧ ixP (.tup [a, b, c, d, e, f]) (.int 5) = some f := fun _ _ _ _ _ _ => ⟨rfl, rfl, rfl⟩
  have sh := parts_short h
  have j := parts_join h
  have lf : (Str.ofString "first ").length = 6 := by decide +kernel
  cases h with
  | @first p h =>
    have e : Str.ofString "first " ++ p = Rw.txt (.first p) := head_words (w := "first") (by decide +kernel)
    have hp := pool_len h
    have g : 6 + p.length ≤ 1000000 := by omega
    simp [Lib.F_h_text, fDef, Lib.ev_h_text, Rw.row, ix0, ix1, eq_k, addA, lf, g, e]
  | mode0 h =>
    simp only [Rw.parts, saidL, List.nil_append, List.map_cons, List.map_nil] at j
    simp [Lib.F_h_text, fDef, Lib.ev_h_text, Rw.row, prV, ix0, ix1, ix2, l3, eq_k, addA, j]
  | @mode1 n w ends h hw he h0 nd hl =>
    simp only [Rw.parts, saidL, List.cons_append, List.nil_append, List.map_cons] at j
    have g1 : 1 + ends.length ≤ 1000000 := by omega
    have g2 : 2 + (ends.length + 1) ≤ 1000000 := by omega
    simp [Lib.F_h_text, fDef, Lib.ev_h_text, Rw.row, prV, ix0, ix1, ix2, l3, eq_k, addA, listF, g1, g2, j]
  | turn0 h ht =>
    simp only [Rw.parts, List.nil_append, List.map_cons, List.map_nil] at j
    simp [Lib.F_h_text, fDef, Lib.ev_h_text, Rw.row, ix0, ix1, ix2, l5, eq_k, addA, listF, j]
  | @turn1 m w th ps h hw hp h0 nd hl ht =>
    simp only [Rw.parts, List.map_cons, List.map_append, List.map_nil] at j
    have g1 : 3 + ps.length ≤ 1000000 := by omega
    have g2 : ps.length + 1 + 1 + 1 + 2 ≤ 1000000 := by omega
    simp [Lib.F_h_text, fDef, Lib.ev_h_text, Rw.row, ix0, ix1, ix2, l5, eq_k, addA, listF, g1, g2, j]
  | @lead m p e th sends hm hp he ht hs hl =>
    have en := ls sends
    have ja := joinM_ok (ss := sends) l_and (fun s h => Nat.le_trans (pool_len (hs s h)) (by decide)) (by omega)
    have hsh : ∀ s ∈ (["lead", m, p, e, "to", th] : List PySem.Str), s.length ≤ 1000 := fun s hs => sh.1 s (by
      simp only [Rw.parts, List.mem_cons, List.not_mem_nil, or_false] at hs ⊢
      rcases hs with z | z | z | z | z | z <;> simp [z])
    have jh := joinM_ok (ss := (["lead", m, p, e, "to", th] : List PySem.Str)) l_gap hsh (by simp)
    have jl := join_lenS (a := " ") hsh
    have jal := join_le (ss := sends) l_and (fun s h => pool_len (hs s h)) hl
    have sg : (Str.ofString " ").length = 1 := by decide +kernel
    have ss6 : (Str.ofString " send ").length = 6 := by decide +kernel
    simp only [List.length_cons, List.length_nil, sg] at jl
    have cut4 : cutP [.str "lead", .str m, .str p, .str e, .str th, .lst (sends.map .str)] none (some 4) = [.str "lead", .str m, .str p, .str e] := rfl
    simp only [List.map_cons, List.map_nil] at jh
    cases sends with
    | nil =>
      have et : Rw.txt (.lead m p e th []) = Txt.join (Str.ofString " ") ["lead", m, p, e, "to", th] := rfl
      simp at en cut4
      simp [Lib.F_h_text, fDef, Lib.ev_h_text, Rw.row, ix0, ix1, ix2, l6, eq_k, addA, listF, slA, cut4, jh, en, et]
    | cons x r =>
      have et : Txt.join (Str.ofString " ") ["lead", m, p, e, "to", th] ++ Str.ofString " send " ++ Txt.join (Str.ofString " and ") (x :: r) = Rw.txt (.lead m p e th (x :: r)) := app_words (w := "send") (by simp) (by decide +kernel)
      generalize Txt.join (Str.ofString " ") ["lead", m, p, e, "to", th] = HD at jh jl et
      generalize Txt.join (Str.ofString " and ") (x :: r) = TD at ja jal et
      have g1 : HD.length + 6 ≤ 1000000 := by omega
      have g2 : HD.length + (6 + TD.length) ≤ 1000000 := by omega
      have g3 : HD.length + 6 + TD.length ≤ 1000000 := by omega
      simp at en cut4 ja
      simp [Lib.F_h_text, fDef, Lib.ev_h_text, Rw.row, ix0, ix1, ix2, l6, eq_k, addA, listF, slA, cut4, jh, en, ja, ss6, tlen, g1, g2, g3, et]
  | @house e tests deeds he ht hd hl hl2 =>
    have en := ls tests
    have en2 := ls deeds
    have ja := joinM_ok (ss := tests) l_and (fun s h => Nat.le_trans (test_len (ht s h)) (by decide)) (by omega)
    have jb := joinM_ok (ss := deeds) l_then (fun s h => Nat.le_trans (deed_len (hd s h)) (by decide)) (by omega)
    have jal := join_le (ss := tests) l_and (fun s h => test_len (ht s h)) hl
    have jbl := join_le (ss := deeds) l_then (fun s h => deed_len (hd s h)) hl2
    have le : e.length ≤ 1000 := sh.1 e (by simp [Rw.parts])
    have s6 : (Str.ofString "house ").length = 6 := by decide +kernel
    have s4 : (Str.ofString " if ").length = 4 := by decide +kernel
    have sd4 : (Str.ofString " do ").length = 4 := by decide +kernel
    have hb : Str.ofString "house " ++ e = Txt.join (Str.ofString " ") ["house", e] := head_words (w := "house") (by decide +kernel)
    have lb : (Str.ofString "house " ++ e).length = 6 + e.length := by rw [tlen, s6]
    have g0 : 6 + e.length ≤ 1000000 := by omega
    cases tests with
    | nil =>
      cases deeds with
      | nil =>
        have et : Str.ofString "house " ++ e = Rw.txt (.house e [] []) := hb
        simp at en en2
        simp [Lib.F_h_text, fDef, Lib.ev_h_text, Rw.row, ix0, ix1, ix2, l3, eq_k, addA, listF, en, en2, s6, g0, et]
      | cons y q =>
        have et : Str.ofString "house " ++ e ++ Str.ofString " do " ++ Txt.join (Str.ofString " then ") (y :: q) = Rw.txt (.house e [] (y :: q)) := by
          rw [hb]; exact app_words (w := "do") (by simp) (by decide +kernel)
        generalize Txt.join (Str.ofString " then ") (y :: q) = TD at jb jbl et
        have g1 : 6 + e.length + 4 ≤ 1000000 := by omega
        have g2 : 6 + e.length + (4 + TD.length) ≤ 1000000 := by omega
        have g3 : 6 + e.length + 4 + TD.length ≤ 1000000 := by omega
        simp at en en2 jb
        simp [Lib.F_h_text, fDef, Lib.ev_h_text, Rw.row, ix0, ix1, ix2, l3, eq_k, addA, listF, en, en2, jb, s6, sd4, tlen, g0, g1, g2, g3, et]
    | cons x r =>
      have ei : Str.ofString "house " ++ e ++ Str.ofString " if " ++ Txt.join (Str.ofString " and ") (x :: r) = Txt.join (Str.ofString " ") ["house", e, "if", Txt.join (Str.ofString " and ") (x :: r)] := by
        rw [hb]; exact app_words (w := "if") (by simp) (by decide +kernel)
      cases deeds with
      | nil =>
        have et : Str.ofString "house " ++ e ++ Str.ofString " if " ++ Txt.join (Str.ofString " and ") (x :: r) = Rw.txt (.house e (x :: r) []) := ei
        generalize Txt.join (Str.ofString " and ") (x :: r) = TD at ja jal et
        have g1 : 6 + e.length + 4 ≤ 1000000 := by omega
        have g2 : 6 + e.length + (4 + TD.length) ≤ 1000000 := by omega
        have g3 : 6 + e.length + 4 + TD.length ≤ 1000000 := by omega
        simp at en en2 ja
        simp [Lib.F_h_text, fDef, Lib.ev_h_text, Rw.row, ix0, ix1, ix2, l3, eq_k, addA, listF, en, en2, ja, s6, s4, tlen, g0, g1, g2, g3, et]
      | cons y q =>
        have et : Str.ofString "house " ++ e ++ Str.ofString " if " ++ Txt.join (Str.ofString " and ") (x :: r) ++ Str.ofString " do " ++ Txt.join (Str.ofString " then ") (y :: q) = Rw.txt (.house e (x :: r) (y :: q)) := by
          rw [ei]; exact app_words (w := "do") (by simp) (by decide +kernel)
        generalize Txt.join (Str.ofString " and ") (x :: r) = TD at ja jal et
        generalize Txt.join (Str.ofString " then ") (y :: q) = TE at jb jbl et
        have g1 : 6 + e.length + 4 ≤ 1000000 := by omega
        have g2 : 6 + e.length + (4 + TD.length) ≤ 1000000 := by omega
        have g3 : 6 + e.length + 4 + TD.length ≤ 1000000 := by omega
        have g4 : 6 + e.length + 4 + TD.length + 4 ≤ 1000000 := by omega
        have g5 : 6 + e.length + 4 + TD.length + 4 + TE.length ≤ 1000000 := by omega
        simp at en en2 ja jb
        simp [Lib.F_h_text, fDef, Lib.ev_h_text, Rw.row, ix0, ix1, ix2, l3, eq_k, addA, listF, en, en2, ja, jb, s6, s4, sd4, tlen, g0, g1, g2, g3, g4, g5, et]
end Pr
end
section
/-! PRz: rows' texts read; plain Lean. -/
namespace Pr
open PySem PySem.Spec PyProof.Rows L2 TreeL Pw
@[local simp] theorem LIM_eqZ : LIM = 1000000 := rfl
theorem pool_free {s : PySem.Str} (h : s ∈ pool) : 32 ∉ TL.tl s := fun m => by
  have q := nm_pool s h
  unfold nmS at q
  simp only [Bool.and_eq_true, List.all_eq_true] at q
  exact absurd (q.2 32 m) (by decide +kernel)
def constL : List PySem.Str := ["first", "mode", "turn", "lead", "house", "to", "send", "if", "do", "made", "gone", "some", "all", "time", "any", "same", "build", "leave", "work", "wipe"]
theorem const_free {s : PySem.Str} (h : s ∈ constL) : 32 ∉ TL.tl s := by
  have : (constL.all fun s => decide (32 ∉ TL.tl s)) = true := by decide +kernel
  exact of_decide_eq_true (List.all_eq_true.mp this s h)
theorem split_w {ws : List PySem.Str} (h0 : ws ≠ []) (h : ∀ w ∈ ws, 32 ∉ TL.tl w) : Txt.split (Txt.join " " ws) " " = ws :=
  TL.split_join (s := 32) (S := []) (by decide +kernel) (by decide +kernel) h0 h
/-- what the row's text is read to, given its words -/
theorem cutL (x : PySem.Str) (r : List PySem.Str) : cutP (.str x :: r.map .str) (some 1) none = r.map .str := by
  have := cutS_hi (x :: r) 1
  simpa using this
theorem cut2 (x y : PySem.Str) (r : List PySem.Str) : cutP (.str x :: .str y :: r.map .str) (some 2) none = r.map .str := by
  have := cutS_hi (x :: y :: r) 2
  simpa using this
@[local simp] theorem kz1 : (Str.ofString "mode" == Str.ofString "first") = false := by decide +kernel
@[local simp] theorem kz2 : (Str.ofString "turn" == Str.ofString "first") = false := by decide +kernel
@[local simp] theorem kz3 : (Str.ofString "turn" == Str.ofString "mode") = false := by decide +kernel
@[local simp] theorem kz4 : (Str.ofString "lead" == Str.ofString "first") = false := by decide +kernel
@[local simp] theorem kz5 : (Str.ofString "lead" == Str.ofString "mode") = false := by decide +kernel
@[local simp] theorem kz6 : (Str.ofString "lead" == Str.ofString "turn") = false := by decide +kernel
@[local simp] theorem kz7 : (Str.ofString "house" == Str.ofString "first") = false := by decide +kernel
@[local simp] theorem kz8 : (Str.ofString "house" == Str.ofString "mode") = false := by decide +kernel
@[local simp] theorem kz9 : (Str.ofString "house" == Str.ofString "turn") = false := by decide +kernel
@[local simp] theorem kz10 : (Str.ofString "house" == Str.ofString "lead") = false := by decide +kernel
theorem rin_first {p : PySem.Str} (h : p ∈ pool) : Lib.F_row_in ks [.t (.lst [.str "first", .str p])] = .ret (.t (Rw.ins (.first p))) [.t (.lst [.str "first", .str p])] := by
  have i := first_i h
  have c1 : cutP [.str "first", .str p] (some 1) none = [.str p] := rfl
  simp [Lib.F_row_in, fDef, Lib.ev_row_in, lx0, slA, c1, eq_k, lenF, eq_i, rMake, i, Rw.ins, Rw.k]
theorem rin_mode0 {n : PySem.Str} (h : n ∈ pool) : Lib.F_row_in ks [.t (.lst [.str "mode", .str n])] = .ret (.t (Rw.ins (.mode n none []))) [.t (.lst [.str "mode", .str n])] := by
  have i := mode_i0 h (SeqV.lst [])
  simp only [List.map_nil] at i
  have c1 : cutP [.str "mode", .str n] (some 1) none = [.str n] := rfl
  have c2 : cutP [.str n] (some 2) none = [] := rfl
  simp [Lib.F_row_in, fDef, Lib.ev_row_in, lx0, slA, c1, c2, eq_k, lenF, rMake, i, Rw.ins, Rw.k]
theorem rin_mode1 {n w : PySem.Str} {ends : List PySem.Str} (h : n ∈ pool) (hw : w ∈ promL) (he : ∀ x ∈ ends, x ∈ pool) (h0 : 0 < ends.length) (nd : ends.Nodup) (hl : ends.length ≤ 8) :
    Lib.F_row_in ks [.t (.lst (.str "mode" :: .str n :: .str w :: ends.map .str))] = .ret (.t (Rw.ins (.mode n (some w) ends))) [.t (.lst (.str "mode" :: .str n :: .str w :: ends.map .str))] := by
  have i := mode_i1 h hw he h0 nd hl (SeqV.lst _)
  have c1 := cutL "mode" (n :: w :: ends)
  have c2 := cut2 n w ends
  simp only [List.map_cons] at c1
  have g : (0 : Int) < (ends.length : Int) + 1 + 1 := by omega
  have g2 : (1 : Int) < (ends.length : Int) + 1 + 1 := by omega
  simp [Lib.F_row_in, fDef, Lib.ev_row_in, lx0, lx1, slA, c1, c2, eq_k, lenF, g, g2, rMake, i, Rw.ins, Rw.k]
theorem cut_mid2 (a b x y : PySem.Str) (ps : List PySem.Str) : cutP (.str a :: .str b :: (ps.map .str ++ [.str x, .str y])) (some 2) (some (-2)) = ps.map .str := by
  unfold cutP
  simp only [HT.sIx, List.length_cons, List.length_append, List.length_map, List.length_nil]
  rw [if_neg (show ¬ ((2 : Int) < 0) by decide), if_pos (show ((-2 : Int) < 0) by decide)]
  have e1 : min (Int.toNat 2) (ps.length + 2 + 1 + 1) = 2 := by omega
  have e2 : ((-2 : Int) + ((ps.length + 2 + 1 + 1 : Nat) : Int)).toNat - 2 = ps.length := by omega
  rw [show (ps.length + (0 + 1 + 1) + 1 + 1) = ps.length + 2 + 1 + 1 by omega, e1, e2]
  show ((ps.map PV.str ++ [PV.str x, PV.str y]).take ps.length) = _
  rw [List.take_left' (by simp)]
theorem ix_last (a b x y : PySem.Str) (ps : List PySem.Str) : ixP (.lst (.str a :: .str b :: (ps.map .str ++ [.str x, .str y]))) (.int (-1)) = some (.str y) := by
  have hl : (PV.str a :: PV.str b :: (ps.map PV.str ++ [PV.str x, PV.str y])).length = ps.length + 4 := by simp
  have hn : ixN (ps.length + 4) (-1) = some (ps.length + 3) := by
    unfold ixN
    simp
    omega
  show atI _ _ = _
  unfold atI
  rw [hl, hn]
  show (PV.str a :: PV.str b :: (ps.map PV.str ++ [PV.str x, PV.str y]))[ps.length + 3]? = _
  rw [List.getElem?_cons_succ, List.getElem?_cons_succ, List.getElem?_append_right (by simp)]
  simp
theorem rin_turn {m w th : PySem.Str} {ps : List PySem.Str} (h : m ∈ pool) (hw : (w = "time" ∧ ps = []) ∨ ((w = "some" ∨ w = "all") ∧ 0 < ps.length)) (hp : ∀ x ∈ ps, x ∈ pool) (nd : ps.Nodup) (hl : ps.length ≤ 8) (ht : th ∈ pool) :
    Lib.F_row_in ks [.t (.lst (.str "turn" :: .str m :: .str w :: (ps.map .str ++ [.str "to", .str th])))] = .ret (.t (Rw.ins (.turn m w ps th))) [.t (.lst (.str "turn" :: .str m :: .str w :: (ps.map .str ++ [.str "to", .str th])))] := by
  have i := turn_i h hw hp nd hl ht (SeqV.lst _)
  have c1 := cutL "turn" (m :: w :: (ps ++ [Str.ofString "to", th]))
  simp only [List.map_cons, List.map_append, List.map_nil] at c1
  have c2 := cut_mid2 m w (Str.ofString "to") th ps
  have il := ix_last m w (Str.ofString "to") th ps
  have g : (3 : Int) < (ps.length : Int) + 2 + 1 + 1 := by omega
  simp [Lib.F_row_in, fDef, Lib.ev_row_in, lx0, lx1, slA, c1, c2, il, eq_k, lenF, g, rMake, i, Rw.ins, Rw.k]
/-! ### joined -/
theorem joined_ok {w y : PySem.Str} {l : List (List PySem.Str)} (hy : ((Str.empty ++ Str.ofString " ") ++ w) ++ Str.ofString " " = y) (ey : TL.tl y = 32 :: (TL.tl w ++ [32])) (hk : y.cps.all (· < 256) = true) (hw : 32 ∉ TL.tl w) (lw : w.length ≤ 10) (yl : (y.length == 0) = false) (h0 : l ≠ []) (hn : ∀ p ∈ l, p ≠ [])
    (hp : ∀ p ∈ l, Wordy 32 (TL.tl w) (TL.tl (Txt.join " " p))) (hs : ∀ s ∈ flatS w l, s.length ≤ 1000) (hl : (flatS w l).length ≤ 100) :
    Lib.F_joined [.t (.lst ((flatS w l).map .str)), .t (.str w)] = .ret (.t (.lst ((l.map (Txt.join " ")).map .str))) [.t (.lst ((flatS w l).map .str)), .t (.str w)] := by
  have j := joinM_ok l_gap hs hl
  have e := join_flat ey hn
  rw [← e] at j
  have sg : (Str.ofString " ").length = 1 := by decide +kernel
  have len := join_lenS (a := " ") hs
  rw [← e, sg] at len
  have sp := split_words (y := y) ey hk hw (parts := l.map (Txt.join " ")) (by simpa using h0) (fun p hp' => by obtain ⟨q, hq, rfl⟩ := List.mem_map.mp hp'; exact hp q hq)
  have spl := split_ok (a := Txt.join y (l.map (Txt.join " "))) yl (by omega) sp
  have l0 : Str.empty.length = 0 := rfl
  have g1 : (Str.empty ++ Str.ofString " ").length = 1 := by rw [add_length, sg, l0]
  have g2 : ((Str.empty ++ Str.ofString " ") ++ w).length = 1 + w.length := by rw [add_length, g1]
  have g3 : 1 + w.length ≤ 1000000 := by omega
  have g4 : 1 + w.length + 1 ≤ 1000000 := by omega
  generalize flatS w l = q at j
  simp [Lib.F_joined, fDef, Lib.ev_joined, j, jF, l0, sg, g1, g2, g3, g4, hy, spl]
theorem and_y : ((Str.empty ++ Str.ofString " ") ++ Str.ofString "and") ++ Str.ofString " " = Str.ofString " and " := by decide +kernel
theorem then_y : ((Str.empty ++ Str.ofString " ") ++ Str.ofString "then") ++ Str.ofString " " = Str.ofString " then " := by decide +kernel
theorem flat_mem {w x : PySem.Str} : ∀ {l : List (List PySem.Str)}, x ∈ flatS w l → x = w ∨ ∃ p ∈ l, x ∈ p
  | [], h => by cases h
  | [p], h => .inr ⟨p, by simp, h⟩
  | p :: q :: r, h => by
    simp only [flatS, List.mem_append, List.mem_cons] at h
    rcases h with h | h | h
    · exact .inr ⟨p, by simp, h⟩
    · exact .inl h
    · rcases flat_mem h with z | ⟨y, hy, z⟩
      · exact .inl z
      · exact .inr ⟨y, List.mem_cons_of_mem _ hy, z⟩
theorem flat_len {w : PySem.Str} {k : Nat} : ∀ {l : List (List PySem.Str)}, (∀ p ∈ l, p.length ≤ k) → (flatS w l).length ≤ l.length * (k + 1)
  | [], _ => by simp [flatS]
  | [p], h => by have := h p (by simp); simp [flatS]; omega
  | p :: q :: r, h => by
    have := h p (by simp)
    have ih := flat_len (w := w) (l := q :: r) fun x hx => h x (List.mem_cons_of_mem _ hx)
    simp only [flatS, List.length_append, List.length_cons] at ih ⊢
    rw [Nat.add_mul (r.length + 1) 1 (k + 1)]
    omega
theorem join_one (x : PySem.Str) : Txt.join " " [x] = x := by rw [TL.join_eq]; rfl
theorem lead_joined {sends : List PySem.Str} (h0 : sends ≠ []) (hs : ∀ x ∈ sends, x ∈ pool) (hl : sends.length ≤ 8) :
    Lib.F_joined [.t (.lst ((flatS "and" (sends.map fun x => [x])).map .str)), .t (.str "and")] = .ret (.t (.lst (sends.map .str))) [.t (.lst ((flatS "and" (sends.map fun x => [x])).map .str)), .t (.str "and")] := by
  have e : (sends.map fun x => [x]).map (Txt.join " ") = sends := by
    rw [List.map_map]
    refine (List.map_congr_left fun x _ => ?_).trans (List.map_id _)
    exact join_one x
  have := joined_ok (w := "and") (y := " and ") (l := sends.map fun x => [x]) and_y (by decide +kernel) (by decide +kernel) (by decide +kernel) (by decide +kernel) (by decide +kernel) (by simpa using h0) (fun p hp => by obtain ⟨q, _, rfl⟩ := List.mem_map.mp hp; simp)
    (fun p hp => by
      obtain ⟨q, hq, rfl⟩ := List.mem_map.mp hp
      rw [join_one]
      refine ⟨[TL.tl q], rfl, fun z hz => ?_⟩
      rw [List.mem_singleton.mp hz]
      refine ⟨pool_free (hs q hq), fun e => ?_⟩
      have hb := nm_pool q (hs q hq)
      rw [str_ext e] at hb
      exact absurd hb (by decide +kernel))
    (fun s hs' => by
      rcases flat_mem hs' with rfl | ⟨p, hp, hx⟩
      · decide +kernel
      · obtain ⟨q, hq, rfl⟩ := List.mem_map.mp hp
        rw [List.mem_singleton.mp hx]
        exact Nat.le_trans (pool_len (hs q hq)) (by decide))
    (by
      have := flat_len (w := "and") (k := 1) (l := sends.map fun x => [x]) fun p hp => by obtain ⟨q, _, rfl⟩ := List.mem_map.mp hp; simp
      rw [List.length_map] at this
      omega)
  rw [e] at this
  exact this
theorem rin_lead0 {m p e th : PySem.Str} (hm : m ∈ pool ∨ m = "any") (hp : p ∈ pool ∨ p = "any") (he : e ∈ pool ∨ e = "time") (ht : th ∈ pool ∨ th = "same") :
    Lib.F_row_in ks [.t (.lst [.str "lead", .str m, .str p, .str e, .str "to", .str th])] = .ret (.t (Rw.ins (.lead m p e th []))) [.t (.lst [.str "lead", .str m, .str p, .str e, .str "to", .str th])] := by
  have i := lead_i hm hp he ht (sends := []) (by simp) (by simp) (SeqV.tup [])
  simp only [List.map_nil] at i
  have c1 : cutP [.str "lead", .str m, .str p, .str e, .str "to", .str th] (some 1) none = [.str m, .str p, .str e, .str "to", .str th] := rfl
  have l : Lib.F_lead_in ks [.t (.lst [.str m, .str p, .str e, .str "to", .str th])] = .ret (.t (Rw.ins (.lead m p e th []))) [.t (.lst [.str m, .str p, .str e, .str "to", .str th])] := by
    simp [Lib.F_lead_in, fDef, Lib.ev_lead_in, sMatch, cSeq, cStar, cNil, seqP, setsE, rMake, i, Rw.ins, Rw.k]
  simp [Lib.F_row_in, fDef, Lib.ev_row_in, lx0, slA, c1, eq_k, lenF, l]
theorem rin_lead1 {m p e th : PySem.Str} {sends : List PySem.Str} (hm : m ∈ pool ∨ m = "any") (hp : p ∈ pool ∨ p = "any") (he : e ∈ pool ∨ e = "time") (ht : th ∈ pool ∨ th = "same") (h0 : sends ≠ []) (hs : ∀ x ∈ sends, x ∈ pool) (hl : sends.length ≤ 8) :
    Lib.F_row_in ks [.t (.lst (.str "lead" :: .str m :: .str p :: .str e :: .str "to" :: .str th :: .str "send" :: (flatS "and" (sends.map fun x => [x])).map .str))] = .ret (.t (Rw.ins (.lead m p e th sends))) [.t (.lst (.str "lead" :: .str m :: .str p :: .str e :: .str "to" :: .str th :: .str "send" :: (flatS "and" (sends.map fun x => [x])).map .str))] := by
  have i := lead_i hm hp he ht hs hl (SeqV.lst sends)
  have jn := lead_joined h0 hs hl
  generalize flatS "and" (sends.map fun x => [x]) = q at jn
  have c1 := cutL "lead" (m :: p :: e :: "to" :: th :: "send" :: q)
  simp only [List.map_cons] at c1
  have n5 : ¬ (q.length + 1 + 1 + 1 + 1 + 1 + 1 = 5) := by omega
  have l : Lib.F_lead_in ks [.t (.lst (.str m :: .str p :: .str e :: .str "to" :: .str th :: .str "send" :: q.map .str))] = .ret (.t (Rw.ins (.lead m p e th sends))) [.t (.lst (.str m :: .str p :: .str e :: .str "to" :: .str th :: .str "send" :: q.map .str))] := by
    simp [Lib.F_lead_in, fDef, Lib.ev_lead_in, sMatch, cSeq, cStar, cNil, seqP, setsE, n5, jn, rMake, i, Rw.ins, Rw.k]
  simp [Lib.F_row_in, fDef, Lib.ev_row_in, lx0, slA, c1, eq_k, lenF, l]
/-! ### houses -/
def wds (t : PySem.Str) : List PySem.Str := Txt.split t " "
theorem wds_join (t : PySem.Str) : Txt.join " " (wds t) = t := join_split t " "
theorem wds_ne (t : PySem.Str) : wds t ≠ [] := split_ne t " " (by decide +kernel)
theorem wds_len : ((testsL ++ deedsL).all fun t => decide ((wds t).length ≤ 3) && (wds t).all fun z => decide (z.length ≤ 20)) = true := by kernel_rfl
theorem wds_do : ((testsL).all fun t => (wds t).all fun z => !(z == Str.ofString "do")) = true := by kernel_rfl
theorem map_join (l : List PySem.Str) : (l.map wds).map (Txt.join " ") = l := by
  rw [List.map_map]
  exact (List.map_congr_left fun x _ => wds_join x).trans (List.map_id _)
theorem house_joined {w y : PySem.Str} {ts : List PySem.Str} (hy : ((Str.empty ++ Str.ofString " ") ++ w) ++ Str.ofString " " = y) (ey : TL.tl y = 32 :: (TL.tl w ++ [32])) (hk : y.cps.all (· < 256) = true) (hw : 32 ∉ TL.tl w) (lw : w.length ≤ 10) (yl : (y.length == 0) = false) (h0 : ts ≠ []) (hin : ∀ t ∈ ts, t ∈ testsL ++ deedsL) (hb : ∀ t ∈ ts, wordsB w t = true) (hl : ts.length ≤ 8) :
    Lib.F_joined [.t (.lst ((flatS w (ts.map wds)).map .str)), .t (.str w)] = .ret (.t (.lst (ts.map .str))) [.t (.lst ((flatS w (ts.map wds)).map .str)), .t (.str w)] := by
  have sz : ∀ t ∈ ts, (wds t).length ≤ 3 ∧ ∀ z ∈ wds t, z.length ≤ 20 := fun t ht => by
    have := List.all_eq_true.mp wds_len t (hin t ht)
    rw [Bool.and_eq_true, List.all_eq_true] at this
    exact ⟨of_decide_eq_true this.1, fun z hz => of_decide_eq_true (this.2 z hz)⟩
  have := joined_ok (w := w) (y := y) (l := ts.map wds) hy ey hk hw lw yl (by simpa using h0) (fun p hp => by obtain ⟨q, _, rfl⟩ := List.mem_map.mp hp; exact wds_ne q)
    (fun p hp => by
      obtain ⟨q, hq, rfl⟩ := List.mem_map.mp hp
      rw [wds_join]
      exact wordy (n := 0) rfl (hb q hq))
    (fun s hs' => by
      rcases flat_mem hs' with rfl | ⟨p, hp, hx⟩
      · omega
      · obtain ⟨q, hq, rfl⟩ := List.mem_map.mp hp
        exact Nat.le_trans ((sz q hq).2 s hx) (by decide))
    (by
      have := flat_len (w := w) (k := 3) (l := ts.map wds) fun p hp => by obtain ⟨q, hq, rfl⟩ := List.mem_map.mp hp; exact (sz q hq).1
      rw [List.length_map] at this
      omega)
  rw [map_join] at this
  exact this
theorem nin_strs (s : PySem.Str) (bs : List PySem.Str) : ninP (.str s) (.lst (bs.map .str)) = some (.bl (!bs.any fun z => z == s)) := by
  have d1 : dat 63 (.str s) = true := rfl
  simp only [ninP, inB, d1, datL_str, Bool.and_self, if_true, Option.map_some, List.any_map]
  rfl
theorem index_strs (s : PySem.Str) (a b : List PySem.Str) (h : ∀ x ∈ a, (x == s) = false) : indexM (.lst ((a ++ s :: b).map .str)) [.str s] = some (.t (.int (a.length : Nat))) := by
  have d1 : dat 63 (.str s) = true := rfl
  have f : (((a ++ s :: b).map PV.str).findIdx? fun z => peq z (.str s)) = some a.length := by
    rw [List.findIdx?_map]
    induction a with
    | nil => simp [List.findIdx?_cons, peq]
    | cons x r ih =>
      have hx := h x List.mem_cons_self
      have ih := ih fun y hy => h y (List.mem_cons_of_mem _ hy)
      rw [List.cons_append, List.findIdx?_cons]
      have : ((fun z => peq z (.str s)) ∘ PV.str) x = false := hx
      rw [this, ih]
      rfl
  simp only [indexM, d1, datL_str, Bool.and_self, if_true, f, Option.map_some]
theorem parted_no {a : List PySem.Str} (h : ∀ x ∈ a, (x == Str.ofString "do") = false) : Lib.F_parted [.t (.lst (a.map .str)), .t (.str "do")] = .ret (.t (.tup [.lst (a.map .str), .non])) [.t (.lst (a.map .str)), .t (.str "do")] := by
  have n := nin_strs "do" a
  have an : (a.any fun z => z == Str.ofString "do") = false := by rw [List.any_eq_false]; intro x hx; rw [h x hx]; exact Bool.false_ne_true
  rw [an] at n
  generalize a.map PV.str = A at n
  simp [Lib.F_parted, fDef, Lib.ev_parted, n]
theorem parted_yes {a d : List PySem.Str} (h : ∀ x ∈ a, (x == Str.ofString "do") = false) : Lib.F_parted [.t (.lst ((a ++ Str.ofString "do" :: d).map .str)), .t (.str "do")] = .ret (.t (.tup [.lst (a.map .str), .lst (d.map .str)])) [.t (.lst ((a ++ Str.ofString "do" :: d).map .str)), .t (.str "do")] := by
  have n := nin_strs "do" (a ++ Str.ofString "do" :: d)
  have an : ((a ++ Str.ofString "do" :: d).any fun z => z == Str.ofString "do") = true := by simp
  rw [an] at n
  have ix := index_strs "do" a d h
  have c1 := cutS_lo (a ++ Str.ofString "do" :: d) a.length
  have c2 := cutS_hi (a ++ Str.ofString "do" :: d) (a.length + 1)
  rw [List.take_left' rfl] at c1
  have e : (a ++ Str.ofString "do" :: d).drop (a.length + 1) = d := by
    rw [List.drop_append, List.drop_eq_nil_of_le (by omega)]
    simp
  rw [e] at c2
  have e2 : (((a.length + 1 : Nat)) : Int) = (a.length : Int) + 1 := by omega
  rw [e2] at c2
  generalize (a ++ Str.ofString "do" :: d).map PV.str = A at n ix c1 c2
  generalize a.map PV.str = B at c1
  simp [Lib.F_parted, fDef, Lib.ev_parted, n, ix, addA, slA, c1, c2]
def askW (tests : List PySem.Str) : List PySem.Str := if tests = [] then [] else Str.ofString "if" :: flatS "and" (tests.map wds)
def doneW (deeds : List PySem.Str) : List PySem.Str := if deeds = [] then [] else Str.ofString "do" :: flatS "then" (deeds.map wds)
theorem ask_do {tests : List PySem.Str} (ht : ∀ x ∈ tests, x ∈ testsL) : ∀ x ∈ askW tests, (x == Str.ofString "do") = false := by
  intro x hx
  unfold askW at hx
  split at hx
  · cases hx
  · rcases List.mem_cons.mp hx with rfl | hx
    · decide +kernel
    · rcases flat_mem hx with rfl | ⟨p, hp, hx⟩
      · decide +kernel
      · obtain ⟨q, hq, rfl⟩ := List.mem_map.mp hp
        have := List.all_eq_true.mp (List.all_eq_true.mp wds_do q (ht q hq)) x hx
        simpa using this
end Pr
end
section
/-! PRh: houses read; plain Lean. -/
namespace Pr
open PySem PySem.Spec PyProof.Rows L2 TreeL Pw
@[local simp] theorem LIM_eqH : LIM = 1000000 := rfl
theorem joined_non (w : PySem.Str) : Lib.F_joined [.t .non, .t (.str w)] = .ret (.t (.lst [])) [.t .non, .t (.str w)] := by
  simp [Lib.F_joined, fDef, Lib.ev_joined]
theorem tests_w {ts : List PySem.Str} (ht : ∀ x ∈ ts, x ∈ testsL) : ∀ t ∈ ts, wordsB "and" t = true := fun t h => by
  have := List.all_eq_true.mp tests_words t (ht t h)
  rw [Bool.and_eq_true] at this
  exact this.1
theorem deeds_w {ts : List PySem.Str} (ht : ∀ x ∈ ts, x ∈ deedsL) : ∀ t ∈ ts, wordsB "then" t = true := fun t h => List.all_eq_true.mp deeds_words t (ht t h)
theorem if_no : eqP (.lst []) (.lst [.str "if"]) = some (.bl false) := rfl
theorem if_yes : eqP (.lst [.str "if"]) (.lst [.str "if"]) = some (.bl true) := by kernel_rfl
theorem house_in_ok {e : PySem.Str} {tests deeds : List PySem.Str} (he : e ∈ pool ∨ e ∈ plainL) (ht : ∀ x ∈ tests, x ∈ testsL) (hd : ∀ x ∈ deeds, x ∈ deedsL) (hl : tests.length ≤ 8) (hl2 : deeds.length ≤ 8) :
    Lib.F_house_in ks [.t (.str e), .t (.lst ((askW tests ++ doneW deeds).map .str))] = .ret (.t (Rw.ins (.house e tests deeds))) [.t (.str e), .t (.lst ((askW tests ++ doneW deeds).map .str))] := by
  have i := house_i he ht hd hl hl2 (SeqV.lst tests) (SeqV.lst deeds)
  have hdo := ask_do ht
  have jt : tests ≠ [] → _ := fun h => house_joined (w := "and") (y := " and ") and_y (by decide +kernel) (by decide +kernel) (by decide +kernel) (by decide +kernel) (by decide +kernel) h (fun t h => List.mem_append_left _ (ht t h)) (tests_w ht) hl
  have jd : deeds ≠ [] → _ := fun h => house_joined (w := "then") (y := " then ") then_y (by decide +kernel) (by decide +kernel) (by decide +kernel) (by decide +kernel) (by decide +kernel) h (fun t h => List.mem_append_right _ (hd t h)) (deeds_w hd) hl2
  -- the head of the words
  have hh : ∀ dv : PV, (∀ f4, (sAsg (eIf (tBl (eBin eqP (eRes (rSl (eVar 2) oNo (oSo (eCon (.int 1))))) (eLst (aCons (eCon (.str "if")) aNil)))) (eRes (rSl (eVar 2) (oSo (eCon (.int 1))) oNo)) (eCon .non)) (gNm 4)) [some (.t (.str e)), f4, some (.t (.lst ((askW tests).map .str))), some (.t dv), none] = .nx [some (.t (.str e)), f4, some (.t (.lst ((askW tests).map .str))), some (.t dv), some (.t (if tests = [] then .non else .lst ((flatS "and" (tests.map wds)).map .str)))]) := fun dv f4 => by
    by_cases h0 : tests = []
    · subst h0
      have c0 : cutP [] none (some 1) = [] := rfl
      simp [askW, slA, c0, if_no]
    · have ea : askW tests = Str.ofString "if" :: flatS "and" (tests.map wds) := if_neg h0
      rw [ea, if_neg h0]
      generalize flatS (Str.ofString "and") (tests.map wds) = q
      have c1 := cutL "if" q
      have c2 := cutS_lo (Str.ofString "if" :: q) 1
      simp at c1 c2
      simp [slA, c1, c2, if_yes]
  have jt' : Lib.F_joined [.t (if tests = [] then .non else .lst ((flatS "and" (tests.map wds)).map .str)), .t (.str "and")] = .ret (.t (.lst (tests.map .str))) [.t (if tests = [] then .non else .lst ((flatS "and" (tests.map wds)).map .str)), .t (.str "and")] := by
    by_cases h0 : tests = []
    · subst h0; exact joined_non _
    · rw [if_neg h0]; exact jt h0
  by_cases d0 : deeds = []
  · subst d0
    have pn := parted_no hdo
    have e1 : askW tests ++ doneW [] = askW tests := by simp [doneW]
    rw [e1]
    have h2 := hh .non
    have jn := joined_non "then"
    simp only [List.map_nil] at i
    generalize (askW tests).map PV.str = A at pn h2
    generalize (if tests = [] then PV.non else PV.lst ((flatS (Str.ofString "and") (tests.map wds)).map PV.str)) = Tv at jt' h2
    unfold Lib.F_house_in Lib.ev_house_in
    have s1 : (sAsg (eRes (rCall 2 Lib.F_parted [] (aCons (eVar 1) (aCons (eCon (.str "do")) aNil)))) (gTpL 2 (gsCons (gNm 2) (gsCons (gNm 3) gsNil)))) [some (.t (.str e)), some (.t (.lst A)), none, none, none] = .nx [some (.t (.str e)), some (.t (.lst A)), some (.t (.lst A)), some (.t .non), none] := by simp [pn]
    rw [fDef_of rfl]
    show (match sSeq _ _ [some (.t (.str e)), some (.t (.lst A)), none, none, none] with
      | .nx e => _
      | .rt a e => _
      | .exc x e => _
      | _ => _) = _
    rw [seq_nxR s1, seq_nxR (h2 _)]
    simp [jt', jn, rMake, i, Rw.ins, Rw.k]
  · have ed : doneW deeds = Str.ofString "do" :: flatS "then" (deeds.map wds) := if_neg d0
    have py := parted_yes (d := flatS "then" (deeds.map wds)) hdo
    have jd' := jd d0
    rw [ed]
    generalize flatS (Str.ofString "then") (deeds.map wds) = D at py jd'
    have h2 := hh (.lst (D.map .str))
    generalize (askW tests ++ Str.ofString "do" :: D).map PV.str = WW at py
    generalize (askW tests).map PV.str = A at py h2
    generalize D.map PV.str = DD at py jd' h2
    generalize (if tests = [] then PV.non else PV.lst ((flatS (Str.ofString "and") (tests.map wds)).map PV.str)) = Tv at jt' h2
    unfold Lib.F_house_in Lib.ev_house_in
    have s1 : (sAsg (eRes (rCall 2 Lib.F_parted [] (aCons (eVar 1) (aCons (eCon (.str "do")) aNil)))) (gTpL 2 (gsCons (gNm 2) (gsCons (gNm 3) gsNil)))) [some (.t (.str e)), some (.t (.lst WW)), none, none, none] = .nx [some (.t (.str e)), some (.t (.lst WW)), some (.t (.lst A)), some (.t (.lst DD)), none] := by simp [py]
    rw [fDef_of rfl]
    show (match sSeq _ _ [some (.t (.str e)), some (.t (.lst WW)), none, none, none] with
      | .nx e => _
      | .rt a e => _
      | .exc x e => _
      | _ => _) = _
    rw [seq_nxR s1, seq_nxR (h2 _)]
    simp [jt', jd', rMake, i, Rw.ins, Rw.k]
end Pr
end
section
/-! PRr: Row.read of a row's text; plain Lean. -/
namespace Pr
open PySem PySem.Spec PyProof.Rows L2 TreeL Pw
@[local simp] theorem LIM_eqR2 : LIM = 1000000 := rfl
@[local simp] theorem kr9 : (Str.ofString "house" == Str.ofString "turn") = false := by decide +kernel
@[local simp] theorem kr7 : (Str.ofString "house" == Str.ofString "first") = false := by decide +kernel
@[local simp] theorem kr8 : (Str.ofString "house" == Str.ofString "mode") = false := by decide +kernel
@[local simp] theorem kr10 : (Str.ofString "house" == Str.ofString "lead") = false := by decide +kernel
theorem rin_house {e : PySem.Str} {tests deeds : List PySem.Str} (he : e ∈ pool ∨ e ∈ plainL) (ht : ∀ x ∈ tests, x ∈ testsL) (hd : ∀ x ∈ deeds, x ∈ deedsL) (hl : tests.length ≤ 8) (hl2 : deeds.length ≤ 8) :
    Lib.F_row_in ks [.t (.lst (.str "house" :: .str e :: (askW tests ++ doneW deeds).map .str))] = .ret (.t (Rw.ins (.house e tests deeds))) [.t (.lst (.str "house" :: .str e :: (askW tests ++ doneW deeds).map .str))] := by
  have h := house_in_ok he ht hd hl hl2
  generalize askW tests ++ doneW deeds = q at h
  have c1 := cutL "house" (e :: q)
  have c2 := cutL e q
  simp only [List.map_cons] at c1
  have g : (0 : Int) < (q.length : Int) + 1 := by omega
  simp [Lib.F_row_in, fDef, Lib.ev_row_in, lx0, slA, c1, c2, eq_k, lenF, g, h]
/-- the words of a row's text -/
def Rw.words : Rw → List PySem.Str
  | .first p => ["first", p]
  | .mode n pr ends => "mode" :: n :: (saidL pr ++ ends)
  | .turn m w ps th => "turn" :: m :: w :: (ps ++ [Str.ofString "to", th])
  | .lead m p e th sends => "lead" :: m :: p :: e :: "to" :: th :: (if sends = [] then [] else Str.ofString "send" :: flatS "and" (sends.map fun x => [x]))
  | .house e tests deeds => "house" :: e :: (askW tests ++ doneW deeds)
theorem and_e : TL.tl (Str.ofString " and ") = 32 :: (TL.tl (Str.ofString "and") ++ [32]) := by decide +kernel
theorem then_e : TL.tl (Str.ofString " then ") = 32 :: (TL.tl (Str.ofString "then") ++ [32]) := by decide +kernel
theorem flatS_ne {w : PySem.Str} : ∀ {l : List (List PySem.Str)}, l ≠ [] → (∀ p ∈ l, p ≠ []) → flatS w l ≠ []
  | [], h, _ => absurd rfl h
  | [p], _, h => h p (by simp)
  | p :: q :: r, _, _ => by simp [flatS]
theorem and_join (ts : List PySem.Str) : Txt.join " and " ts = Txt.join " " (flatS "and" (ts.map wds)) := by
  have := join_flat (y := " and ") (w := "and") and_e (l := ts.map wds) (fun p hp => by obtain ⟨q, _, rfl⟩ := List.mem_map.mp hp; exact wds_ne q)
  rw [map_join] at this
  exact this
theorem then_join (ts : List PySem.Str) : Txt.join " then " ts = Txt.join " " (flatS "then" (ts.map wds)) := by
  have := join_flat (y := " then ") (w := "then") then_e (l := ts.map wds) (fun p hp => by obtain ⟨q, _, rfl⟩ := List.mem_map.mp hp; exact wds_ne q)
  rw [map_join] at this
  exact this
theorem and_join1 (ts : List PySem.Str) : Txt.join " and " ts = Txt.join " " (flatS "and" (ts.map fun x => [x])) := by
  have := join_flat (y := " and ") (w := "and") and_e (l := ts.map fun x => [x]) (fun p hp => by obtain ⟨q, _, rfl⟩ := List.mem_map.mp hp; simp)
  have e : (ts.map fun x => [x]).map (Txt.join " ") = ts := by
    rw [List.map_map]
    exact (List.map_congr_left fun x _ => join_one x).trans (List.map_id _)
  rw [e] at this
  exact this
theorem txt_words (r : Rw) : r.txt = Txt.join " " r.words := by
  cases r with
  | first p => rfl
  | mode n pr ends => rfl
  | turn m w ps th => rfl
  | lead m p e th sends =>
    simp only [Rw.txt, Rw.parts, Rw.words, sentL]
    by_cases h : sends = []
    · rw [if_pos h, if_pos h]
    · rw [if_neg h, if_neg h, and_join1]
      have := join_nest (a := ["lead", m, p, e, "to", th, "send"]) (b := flatS "and" (sends.map fun x => [x])) (c := []) (flatS_ne (by simpa using h) (fun p hp => by obtain ⟨q, _, rfl⟩ := List.mem_map.mp hp; simp))
      rw [List.append_nil] at this
      exact this
  | house e tests deeds =>
    have wn : ∀ ts : List PySem.Str, ∀ p ∈ ts.map wds, p ≠ [] := fun ts p hp => by obtain ⟨q, _, rfl⟩ := List.mem_map.mp hp; exact wds_ne q
    simp only [Rw.txt, Rw.parts, Rw.words, askL, doneL, askW, doneW]
    by_cases h : tests = []
    · rw [if_pos h, if_pos h]
      by_cases g : deeds = []
      · rw [if_pos g, if_pos g]
      · rw [if_neg g, if_neg g, then_join]
        have := join_nest (a := ["house", e, "do"]) (b := flatS "then" (deeds.map wds)) (c := []) (flatS_ne (by simpa using g) (wn _))
        rw [List.append_nil] at this
        exact this
    · rw [if_neg h, if_neg h, and_join]
      by_cases g : deeds = []
      · rw [if_pos g, if_pos g]
        have := join_nest (a := ["house", e, "if"]) (b := flatS "and" (tests.map wds)) (c := []) (flatS_ne (by simpa using h) (wn _))
        exact this
      · rw [if_neg g, if_neg g, then_join]
        have h1 := join_nest (a := ["house", e, "if"]) (b := flatS "and" (tests.map wds)) (c := ["do", Txt.join " " (flatS "then" (deeds.map wds))]) (flatS_ne (by simpa using h) (wn _))
        have h2 := join_nest (a := Str.ofString "house" :: e :: Str.ofString "if" :: (flatS "and" (tests.map wds) ++ [Str.ofString "do"])) (b := flatS "then" (deeds.map wds)) (c := []) (flatS_ne (by simpa using g) (wn _))
        refine h1.trans ?_
        rw [List.append_nil] at h2
        simp only [List.append_assoc, List.cons_append, List.nil_append] at h2 ⊢
        exact h2
theorem kd : ∀ s ∈ constL ++ pool, 32 ∉ TL.tl s := fun s h => by
  rcases List.mem_append.mp h with z | z
  · exact const_free z
  · exact pool_free z
theorem wds_free (t : PySem.Str) : ∀ w ∈ wds t, 32 ∉ TL.tl w := fun w h => StrLaws.split_free t 32 w h
theorem flat_free {w : PySem.Str} {l : List (List PySem.Str)} (hw : 32 ∉ TL.tl w) (h : ∀ p ∈ l, ∀ x ∈ p, 32 ∉ TL.tl x) : ∀ x ∈ flatS w l, 32 ∉ TL.tl x := fun x hx => by
  rcases flat_mem hx with rfl | ⟨p, hp, hx⟩
  · exact hw
  · exact h p hp x hx
/-- the text's words -/
theorem split_txt {r : Rw} (h : r.Ok) : Txt.split r.txt " " = r.words := by
  rw [txt_words]
  refine split_w (by cases r <;> simp [Rw.words]) ?_
  have pf : ∀ {s : PySem.Str}, s ∈ pool → 32 ∉ TL.tl s := pool_free
  have cf : ∀ {s : PySem.Str}, s ∈ constL → 32 ∉ TL.tl s := const_free
  cases h with
  | first h =>
    intro w hw
    simp only [Rw.words, List.mem_cons, List.not_mem_nil, or_false] at hw
    rcases hw with rfl | rfl
    · exact cf (by simp [constL])
    · exact pf h
  | mode0 h =>
    intro w hw
    simp only [Rw.words, saidL, List.nil_append, List.mem_cons, List.not_mem_nil, or_false] at hw
    rcases hw with rfl | rfl
    · exact cf (by simp [constL])
    · exact pf h
  | mode1 h hw' he h0 nd hl =>
    intro w hw
    simp only [Rw.words, saidL, List.cons_append, List.nil_append, List.mem_cons] at hw
    rcases hw with rfl | rfl | rfl | hw
    · exact cf (by simp [constL])
    · exact pf h
    · simp only [promL, List.mem_cons, List.not_mem_nil, or_false] at hw'
      rcases hw' with rfl | rfl <;> exact cf (by simp [constL])
    · exact pf (he w hw)
  | turn0 h ht =>
    intro w hw
    simp only [Rw.words, List.nil_append, List.mem_cons, List.not_mem_nil, or_false] at hw
    rcases hw with rfl | rfl | rfl | rfl | rfl
    · exact cf (by simp [constL])
    · exact pf h
    · exact cf (by simp [constL])
    · exact cf (by simp [constL])
    · exact pf ht
  | turn1 h hw' hp h0 nd hl ht =>
    intro w hw
    simp only [Rw.words, List.mem_cons, List.mem_append, List.not_mem_nil, or_false] at hw
    rcases hw with rfl | rfl | rfl | hw | rfl | rfl
    · exact cf (by simp [constL])
    · exact pf h
    · rcases hw' with rfl | rfl <;> exact cf (by simp [constL])
    · exact pf (hp w hw)
    · exact cf (by simp [constL])
    · exact pf ht
  | lead hm hp he ht hs hl =>
    intro w hw
    simp only [Rw.words, List.mem_cons] at hw
    rcases hw with rfl | rfl | rfl | rfl | rfl | rfl | hw
    · exact cf (by simp [constL])
    · rcases hm with h | rfl
      · exact pf h
      · exact cf (by simp [constL])
    · rcases hp with h | rfl
      · exact pf h
      · exact cf (by simp [constL])
    · rcases he with h | rfl
      · exact pf h
      · exact cf (by simp [constL])
    · exact cf (by simp [constL])
    · rcases ht with h | rfl
      · exact pf h
      · exact cf (by simp [constL])
    · split at hw
      · cases hw
      · rcases List.mem_cons.mp hw with rfl | hw
        · exact cf (by simp [constL])
        · exact flat_free (by decide +kernel) (fun p hp x hx => by
            obtain ⟨q, hq, rfl⟩ := List.mem_map.mp hp
            rw [List.mem_singleton.mp hx]
            exact pf (hs q hq)) w hw
  | house he ht hd hl hl2 =>
    intro w hw
    simp only [Rw.words, List.mem_cons, List.mem_append] at hw
    rcases hw with rfl | rfl | hw | hw
    · exact cf (by simp [constL])
    · rcases he with h | h
      · exact pf h
      · simp only [plainL, List.mem_cons, List.not_mem_nil, or_false] at h
        rcases h with rfl | rfl | rfl | rfl <;> exact cf (by simp [constL])
    · unfold askW at hw
      split at hw
      · cases hw
      · rcases List.mem_cons.mp hw with rfl | hw
        · exact cf (by simp [constL])
        · exact flat_free (by decide +kernel) (fun p hp x hx => by
            obtain ⟨q, hq, rfl⟩ := List.mem_map.mp hp
            exact wds_free q x hx) w hw
    · unfold doneW at hw
      split at hw
      · cases hw
      · rcases List.mem_cons.mp hw with rfl | hw
        · exact cf (by simp [constL])
        · exact flat_free (by decide +kernel) (fun p hp x hx => by
            obtain ⟨q, hq, rfl⟩ := List.mem_map.mp hp
            exact wds_free q x hx) w hw
theorem row_in_ok {r : Rw} (h : r.Ok) : Lib.F_row_in ks [.t (.lst (r.words.map .str))] = .ret (.t r.ins) [.t (.lst (r.words.map .str))] := by
  cases h with
  | first h => exact rin_first h
  | mode0 h => exact rin_mode0 h
  | mode1 h hw he h0 nd hl => exact rin_mode1 h hw he h0 nd hl
  | turn0 h ht => exact rin_turn h (.inl ⟨rfl, rfl⟩) (by simp) (by simp) (by simp) ht
  | turn1 h hw hp h0 nd hl ht =>
    have := rin_turn h (.inr ⟨hw, h0⟩) hp nd hl ht
    simp only [Rw.words, List.map_cons, List.map_append, List.map_nil]
    exact this
  | @lead m p e th sends hm hp he ht hs hl =>
    by_cases h0 : sends = []
    · subst h0; exact rin_lead0 hm hp he ht
    · have := rin_lead1 hm hp he ht h0 hs hl
      simp only [Rw.words, if_neg h0, List.map_cons]
      exact this
  | house he ht hd hl hl2 => exact rin_house he ht hd hl hl2
/-- str of a row, by its class -/
def strE (ea : EvE) : EvR := rAlt (rDun1 1 (Lib.F_First___str__ ks) okStr ea) (rAlt (rDun1 2 (Lib.F_Mode___str__ ks) okStr ea) (rAlt (rDun1 3 (Lib.F_Turn___str__ ks) okStr ea) (rAlt (rDun1 4 (Lib.F_Lead___str__ ks) okStr ea) (rDun1 5 (Lib.F_House___str__ ks) okStr ea))))
theorem str_E {r : Rw} (h : r.Ok) {ea : EvE} {env e1 : En} (q : ea env = .ok (.tr r.ins) e1) : strE ea env = .ok (.t (.str r.txt)) e1 := by
  have h' := h
  unfold strE rAlt
  cases h with
  | first h =>
    have s := str_first h'
    simp only [Rw.ins, Rw.k] at s q
    simp [rDun1, q, isIns, orR, callOf, s, okStr]
  | mode0 h =>
    have s := str_mode h'
    simp only [Rw.ins, Rw.k] at s q
    simp [rDun1, q, isIns, orR, callOf, s, okStr]
  | mode1 h hw he h0 nd hl =>
    have s := str_mode h'
    simp only [Rw.ins, Rw.k] at s q
    simp [rDun1, q, isIns, orR, callOf, s, okStr]
  | turn0 h ht =>
    have s := str_turn h'
    simp only [Rw.ins, Rw.k] at s q
    simp [rDun1, q, isIns, orR, callOf, s, okStr]
  | turn1 h hw hp h0 nd hl ht =>
    have s := str_turn h'
    simp only [Rw.ins, Rw.k] at s q
    simp [rDun1, q, isIns, orR, callOf, s, okStr]
  | lead hm hp he ht hs hl =>
    have s := str_lead h' hs hl
    simp only [Rw.ins, Rw.k] at s q
    simp [rDun1, q, isIns, orR, callOf, s, okStr]
  | house he ht hd hl hl2 =>
    have s := str_house h' ht hd hl hl2
    simp only [Rw.ins, Rw.k] at s q
    simp [rDun1, q, isIns, orR, callOf, s, okStr]
theorem txt_len {r : Rw} (h : r.Ok) : r.txt.length ≤ 100000 := by
  have := join_lenS (a := " ") (parts_short h).1
  have sg : (Str.ofString " ").length = 1 := by decide +kernel
  rw [sg] at this
  have l := (parts_short h).2
  unfold Rw.txt
  omega
theorem read_ok {r : Rw} (h : r.Ok) : Lib.F_Row_read ks [.t (.cls 0), .t (.str r.txt)] = .ret (.t r.ins) [.t (.cls 0), .t (.str r.txt)] := by
  have sp := split_ok (b := " ") (by decide +kernel) (Nat.le_trans (txt_len h) (by decide)) (split_txt h)
  have ri := row_in_ok h
  have s1 : (sAsg (eRes (rMet "str" splitM (eVar 1) (aCons (eCon (.str " ")) aNil))) (gNm 2)) [some (.t (.cls 0)), some (.t (.str r.txt)), none, none, none] = .nx [some (.t (.cls 0)), some (.t (.str r.txt)), some (.t (.lst (r.words.map .str))), none, none] := by simp [sp]
  have s2 : (sTry 4 [0, 1] [20] [20] (sAsg (eRes (rCall 1 (Lib.F_row_in ks) [] (aCons (eVar 2) aNil))) (gNm 3)) (fun y => (fun _ => .bad))) [some (.t (.cls 0)), some (.t (.str r.txt)), some (.t (.lst (r.words.map .str))), none, none] = .nx [some (.t (.cls 0)), some (.t (.str r.txt)), some (.t (.lst (r.words.map .str))), some (.t r.ins), none] := by
    generalize r.words.map PV.str = q at ri
    simp [ri]
  have st := str_E h (ea := eVar 3) (env := [some (.t (.cls 0)), some (.t (.str r.txt)), some (.t (.lst (r.words.map .str))), some (.t r.ins), none]) (e1 := [some (.t (.cls 0)), some (.t (.str r.txt)), some (.t (.lst (r.words.map .str))), some (.t r.ins), none]) rfl
  have ne : neP (.str r.txt) (.str r.txt) = some (.bl false) := by rw [ne_s]; simp
  obtain ⟨K, fs, hx⟩ : ∃ K fs, r.ins = .ins K fs := ⟨_, _, rfl⟩
  rw [hx] at s2 st ⊢
  unfold Lib.F_Row_read Lib.ev_Row_read
  rw [fDef_of rfl]
  show (match sSeq _ _ [some (.t (.cls 0)), some (.t (.str r.txt)), none, none, none] with
    | .nx e => _
    | .rt a e => _
    | .exc x e => _
    | _ => _) = _
  rw [seq_nxR s1, seq_nxR s2]
  unfold strE at st
  simp [st, ne]
/-- two rows are one when their texts are -/
theorem ins_inj {r q : Rw} (h : r.ins = q.ins) : r = q := by
  have sm : ∀ {a b : List PySem.Str}, a.map PV.str = b.map PV.str → a = b := fun {a b} e => by
    have := strsP_map a
    rw [e, strsP_map b] at this
    exact (Option.some.inj this).symm
  have hk : r.k = q.k := by injection h
  have hf : r.fs = q.fs := by injection h
  cases r <;> cases q <;> simp only [Rw.k] at hk <;> first | (exact absurd hk (by decide)) | skip
  · simp only [Rw.fs, List.cons.injEq, Prod.mk.injEq, PV.str.injEq, true_and, and_true] at hf
    rw [hf]
  · rename_i n pr ends n2 pr2 ends2
    simp only [Rw.fs, List.cons.injEq, Prod.mk.injEq, PV.str.injEq, PV.tup.injEq, true_and, and_true] at hf
    obtain ⟨a, b, c⟩ := hf
    have hp : pr = pr2 := by
      cases pr <;> cases pr2 <;> simp [prV] at b
      · rfl
      · rw [b]
    rw [a, hp, sm c]
  · simp only [Rw.fs, List.cons.injEq, Prod.mk.injEq, PV.str.injEq, PV.tup.injEq, true_and, and_true] at hf
    obtain ⟨a, b, c, d⟩ := hf
    rw [a, b, sm c, d]
  · simp only [Rw.fs, List.cons.injEq, Prod.mk.injEq, PV.str.injEq, PV.tup.injEq, true_and, and_true] at hf
    obtain ⟨a, b, c, d, e⟩ := hf
    rw [a, b, c, d, sm e]
  · simp only [Rw.fs, List.cons.injEq, Prod.mk.injEq, PV.str.injEq, PV.tup.injEq, true_and, and_true] at hf
    obtain ⟨a, b, c⟩ := hf
    rw [a, sm b, sm c]
theorem txt_inj {r q : Rw} (hr : r.Ok) (hq : q.Ok) (h : r.txt = q.txt) : r = q := by
  have a := read_ok hr
  have b := read_ok hq
  rw [h, b] at a
  injection a with a1 _
  injection a1 with a2
  exact (ins_inj a2).symm
theorem eq_ok {r q : Rw} (hr : r.Ok) (hq : q.Ok) : Lib.F_Row___eq__ ks [.t r.ins, .t q.ins] = .ret (.t (.bl (r.txt == q.txt))) [.t r.ins, .t q.ins] := by
  have s0 := str_E hr (ea := eVar 0) (env := [some (.t r.ins), some (.t q.ins)]) (e1 := [some (.t r.ins), some (.t q.ins)]) rfl
  have s1 := str_E hq (ea := eVar 1) (env := [some (.t r.ins), some (.t q.ins)]) (e1 := [some (.t r.ins), some (.t q.ins)]) rfl
  have k1 : isiF (tbY [.ins 0, .ins 1, .ins 2, .ins 3, .ins 4, .ins 5]) ks q.ins = some true := by cases q <;> rfl
  unfold Lib.F_Row___eq__ Lib.ev_Row___eq__
  rw [fDef_of rfl]
  unfold strE at s0 s1
  generalize r.ins = R at s0 s1 ⊢
  generalize q.ins = Q at s0 s1 k1 ⊢
  simp [-isiF, k1, s0, s1, eq_s]
end Pr
end
section
/-! PRd: rows drawn; plain Lean. -/
namespace Pr
open PySem PySem.Spec PyProof.Rows L2 TreeL Pw
@[local simp] theorem LIM_eqD : LIM = 1000000 := rfl
theorem pool_nd : pool.Nodup := by
  have : (decide pool.Nodup) = true := by decide +kernel
  exact of_decide_eq_true this
/-- six unlike names -/
theorem names6 {n : Int} {o : OS} (h : IsBox n o) (hn : n ≤ 2 ^ 39) : ∃ (ws : List PySem.Str) (o' : OS), Lib.F_h_names [.ow o, .t (.int 6)] = .ret (.t (.lst (ws.map .str))) [.ow o', .t (.int 6)] ∧ (∀ w ∈ ws, w ∈ pool) ∧ ws.length = 6 ∧ ws.Nodup ∧ IsBox (n + 15) o' := by
  obtain ⟨zs, o', q, hp, hb⟩ := A.mixed_spec (xs := pool.map .str) h (by simp [pool]; omega) (by simp [pool]) (fun x hx => by obtain ⟨w, hw, rfl⟩ := List.mem_map.mp hx; rfl)
  obtain ⟨vs, rfl⟩ : ∃ vs : List PySem.Str, zs = vs.map .str := by
    have : ∀ z ∈ zs, ∃ w, z = PV.str w := fun z hz => by
      obtain ⟨w, _, rfl⟩ := List.mem_map.mp (hp.subset hz)
      exact ⟨w, rfl⟩
    clear q hp hb
    induction zs with
    | nil => exact ⟨[], rfl⟩
    | cons x r ih =>
      obtain ⟨w, rfl⟩ := this x List.mem_cons_self
      obtain ⟨vs, rfl⟩ := ih fun z hz => this z (List.mem_cons_of_mem _ hz)
      exact ⟨w :: vs, rfl⟩
  have hl : vs.length = 15 := by have := hp.length_eq; simpa [pool] using this
  have nd : vs.Nodup := by
    have h1 : (pool.map PV.str).Nodup := by
      exact List.pairwise_map.mpr (pool_nd.imp fun hne e => hne (PV.str.inj e))
    have h2 := (hp.nodup_iff).mpr h1
    exact (List.pairwise_map.mp h2).imp fun hne e => hne (congrArg PV.str e)
  have hc := cutS_lo vs 6
  refine ⟨vs.take 6, o', ?_, fun w hw => ?_, by rw [List.length_take, hl]; rfl, nd.sublist (List.take_sublist _ _), by simpa [pool] using hb⟩
  · have hc' : cutP (vs.map .str) none (some 6) = (vs.take 6).map .str := by simpa using hc
    have ps := pool_spec
    have : Lib.F_h_mixed = A.F_mixed := rfl
    simp [Lib.F_h_names, fDef, Lib.ev_h_names, ps, this, q, slA, hc']
  · have := hp.subset (List.mem_map_of_mem (f := PV.str) (List.mem_of_mem_take hw))
    obtain ⟨y, hy, e⟩ := List.mem_map.mp this
    injection e with e
    rw [← e]; exact hy
theorem pickP {n : Int} {o : OS} {xs : List PySem.Str} (h : IsBox n o) (hn : n ≤ 2 ^ 39) (h0 : 0 < xs.length) (hm : xs.length < 100) : ∃ x o', A.F_pick [.ow o, .t (.lst (xs.map .str))] = .ret (.t (.str x)) [.ow o', .t (.lst (xs.map .str))] ∧ x ∈ xs ∧ IsBox (n + 1) o' := by
  obtain ⟨x, o', q, hx, hb⟩ := A.pick_spec (xs := xs.map .str) h (by omega) (by simpa using h0) (by rw [List.length_map]; omega)
  obtain ⟨y, hy, rfl⟩ := List.mem_map.mp hx
  exact ⟨y, o', q, hy, hb⟩
theorem test_spec {n : Int} {o : OS} {ws : List PySem.Str} (h : IsBox n o) (hn : n ≤ 2 ^ 38) (hw : ∀ w ∈ ws, w ∈ pool) (h6 : ws.length = 6) : ∃ (t : PySem.Str) (o' : OS), Lib.F_h_test [.ow o, .t (.lst (ws.map .str))] = .ret (.t (.str t)) [.ow o', .t (.lst (ws.map .str))] ∧ t ∈ testsL ∧ IsBox (n + 4) o' := by
  obtain ⟨a, o1, q1, ha, b1⟩ := pickP (xs := ws ++ [Str.ofString "none"]) h (by omega) (by simp) (by rw [List.length_append, h6]; decide)
  obtain ⟨b, o2, q2, hb, b2⟩ := pickP (xs := ws) b1 (by omega) (by omega) (by omega)
  obtain ⟨c, o3, q3, hc, b3⟩ := pickP (xs := [Str.ofString "", Str.ofString "not "]) b2 (by omega) (by decide) (by decide)
  obtain ⟨d, o4, q4, hd, b4⟩ := pickP (xs := [ap "at " a, ap "marked " b, Str.ofString "made", Str.ofString "built"]) b3 (by omega) (by simp) (by simp)
  have han : a ∈ poolN := by
    rcases List.mem_append.mp ha with z | z
    · exact List.mem_cons_of_mem _ (hw a z)
    · rw [List.mem_singleton.mp z]; exact List.mem_cons_self
  have hbody : d ∈ bodiesL := by
    simp only [List.mem_cons, List.not_mem_nil, or_false] at hd
    unfold bodiesL
    rcases hd with rfl | rfl | rfl | rfl
    · exact List.mem_append_left _ (List.mem_map_of_mem han)
    · exact List.mem_append_right _ (List.mem_append_left _ (List.mem_map_of_mem (hw b hb)))
    · exact List.mem_append_right _ (List.mem_append_right _ (by simp))
    · exact List.mem_append_right _ (List.mem_append_right _ (by simp))
  have la : a.length ≤ 10 := by
    rcases List.mem_cons.mp han with rfl | z
    · decide +kernel
    · have := nm_pool a z
      unfold nmS at this
      simp only [Bool.and_eq_true, decide_eq_true_iff] at this
      omega
  have lb := pool_len (hw b hb)
  have l3 : (Str.ofString "at ").length = 3 := by decide +kernel
  have l7 : (Str.ofString "marked ").length = 7 := by decide +kernel
  have l4 : (Str.ofString "not ").length = 4 := by decide +kernel
  have l0 : (Str.ofString "").length = 0 := by decide +kernel
  have ld : d.length ≤ 20 := test_len (List.mem_append_left _ hbody)
  have g1 : ws.length + 1 ≤ 1000000 := by omega
  have g2 : 3 + a.length ≤ 1000000 := by omega
  have g3 : 7 + b.length ≤ 1000000 := by omega
  simp only [List.map_append, List.map_cons, List.map_nil] at q1 q3 q4
  unfold ap at q4
  simp only [List.mem_cons, List.not_mem_nil, or_false] at hc
  rcases hc with rfl | rfl
  · have g4 : d.length ≤ 1000000 := by omega
    refine ⟨Str.ofString "" ++ d, o4, ?_, ?_, b4.mono (by omega)⟩
    · simp [Lib.F_h_test, fDef, Lib.ev_h_test, pick_eq, addA, g1, q1, l3, g2, q2, l7, g3, q3, q4, l0, g4]
    · have e : Str.ofString "" ++ d = d := str_ext (by rw [TL.tl_append]; rfl)
      rw [e]; exact List.mem_append_left _ hbody
  · have g4 : 4 + d.length ≤ 1000000 := by omega
    refine ⟨Str.ofString "not " ++ d, o4, ?_, List.mem_append_right _ (List.mem_map_of_mem (f := ap "not ") hbody), b4.mono (by omega)⟩
    simp [Lib.F_h_test, fDef, Lib.ev_h_test, pick_eq, addA, g1, q1, l3, g2, q2, l7, g3, q3, q4, l4, g4]
theorem poolN_len {a : PySem.Str} (h : a ∈ poolN) : a.length ≤ 20 := by
  rcases List.mem_cons.mp h with rfl | z
  · decide +kernel
  · exact pool_len z
theorem deed_spec {n : Int} {o : OS} {ws : List PySem.Str} (h : IsBox n o) (hn : n ≤ 2 ^ 38) (hw : ∀ w ∈ ws, w ∈ pool) (h6 : ws.length = 6) : ∃ (t : PySem.Str) (o' : OS), Lib.F_h_deed [.ow o, .t (.lst (ws.map .str))] = .ret (.t (.str t)) [.ow o', .t (.lst (ws.map .str))] ∧ t ∈ deedsL ∧ IsBox (n + 5) o' := by
  obtain ⟨a, o1, q1, ha, b1⟩ := pickP (xs := ws ++ [Str.ofString "none"]) h (by omega) (by simp) (by rw [List.length_append, h6]; decide)
  obtain ⟨b, o2, q2, hb, b2⟩ := pickP (xs := ws) b1 (by omega) (by omega) (by omega)
  obtain ⟨c, o3, q3, hc, b3⟩ := pickP (xs := ws) b2 (by omega) (by omega) (by omega)
  obtain ⟨d, o4, q4, hd, b4⟩ := pickP (xs := ws) b3 (by omega) (by omega) (by omega)
  obtain ⟨e, o5, q5, he, b5⟩ := pickP (xs := [ap "to " a, ap "mark " b, Str.ofString "make", Str.ofString "take", Str.ofString "grip", Str.ofString "free", ap "clear " c, ap "send " d]) b4 (by omega) (by simp) (by simp)
  have han : a ∈ poolN := by
    rcases List.mem_append.mp ha with z | z
    · exact List.mem_cons_of_mem _ (hw a z)
    · rw [List.mem_singleton.mp z]; exact List.mem_cons_self
  have la := poolN_len han
  have lb := pool_len (hw b hb)
  have lc := pool_len (hw c hc)
  have ld := pool_len (hw d hd)
  have s3 : (Str.ofString "to ").length = 3 := by decide +kernel
  have s5 : (Str.ofString "mark ").length = 5 := by decide +kernel
  have s6 : (Str.ofString "clear ").length = 6 := by decide +kernel
  have t5 : (Str.ofString "send ").length = 5 := by decide +kernel
  have g0 : ws.length + 1 ≤ 1000000 := by omega
  have g1 : 3 + a.length ≤ 1000000 := by omega
  have g2 : 5 + b.length ≤ 1000000 := by omega
  have g3 : 6 + c.length ≤ 1000000 := by omega
  have g4 : 5 + d.length ≤ 1000000 := by omega
  simp only [List.map_append, List.map_cons, List.map_nil] at q1 q5
  unfold ap at q5
  refine ⟨e, o5, ?_, ?_, b5.mono (by omega)⟩
  · simp [Lib.F_h_deed, fDef, Lib.ev_h_deed, pick_eq, addA, g0, q1, s3, g1, q2, s5, g2, q3, s6, g3, q4, t5, g4, q5]
  · simp only [List.mem_cons, List.not_mem_nil, or_false] at he
    unfold deedsL
    rcases he with rfl | rfl | rfl | rfl | rfl | rfl | rfl | rfl
    · exact List.mem_append_left _ (List.mem_map_of_mem han)
    · exact List.mem_append_right _ (List.mem_append_left _ (List.mem_map_of_mem (hw b hb)))
    · exact List.mem_append_right _ (List.mem_append_right _ (List.mem_append_left _ (by simp)))
    · exact List.mem_append_right _ (List.mem_append_right _ (List.mem_append_left _ (by simp)))
    · exact List.mem_append_right _ (List.mem_append_right _ (List.mem_append_left _ (by simp)))
    · exact List.mem_append_right _ (List.mem_append_right _ (List.mem_append_left _ (by simp)))
    · exact List.mem_append_right _ (List.mem_append_right _ (List.mem_append_right _ (List.mem_append_left _ (List.mem_map_of_mem (hw c hc)))))
    · exact List.mem_append_right _ (List.mem_append_right _ (List.mem_append_right _ (List.mem_append_right _ (List.mem_map_of_mem (hw d hd)))))
/-! few of the sends -/
theorem enum_strs : ∀ {xs : List PySem.Str} {k : Nat} {u : PV}, u ∈ enumL k (xs.map .str) → ∃ (j : Int) (t : PySem.Str), u = .tup [.int j, .str t] ∧ t ∈ xs
  | [], k, u, h => by simp [enumL] at h
  | t :: ts, k, u, h => by
    simp only [List.map_cons, enumL, List.mem_cons] at h
    rcases h with rfl | h
    · exact ⟨_, t, rfl, List.mem_cons_self⟩
    · obtain ⟨j, t', e, m⟩ := enum_strs h
      exact ⟨j, t', e, List.mem_cons_of_mem _ m⟩
def fstI : PV → PV
  | .tup (x :: _) => x
  | _ => .non
def sndP : PV → PV
  | .tup [_, y] => y
  | _ => .non
theorem few_spec {xs : List PySem.Str} (hl : xs.length ≤ 100) : ∃ ys : List PySem.Str, Lib.F_h_few [.t (.lst (xs.map .str))] = .ret (.ow (.lst (ys.map .str))) [.t (.lst (xs.map .str))] ∧ (∀ y ∈ ys, y ∈ xs) ∧ ys.length ≤ xs.length := by
  have el : (enumL 0 (xs.map PV.str)).length = xs.length := by rw [enum_len, List.length_map]
  have ie : ∀ e1 e2 e3, iEnumS (aCons (eVar 0) aNil) [some (.t (.lst (xs.map .str))), e1, e2, e3] = .ok ⟨enumL 0 (xs.map .str), .tr .non⟩ [some (.t (.lst (xs.map .str))), e1, e2, e3] := fun _ _ _ => rfl
  let p1 : PV → Bool := fun t => match sndP t with
    | .str z => (cutS z none (some 5)) == Str.ofString "send "
    | _ => false
  have c1 := compL_fil (g := gTpL 2 (gsCons (gNm 2) (gsCons (gNm 3) gsNil))) (et := tBl (eBin eqP (eRes (rSl (eVar 3) oNo (oSo (eCon (.int 5))))) (eCon (.str "send ")))) (ea := eVar 2) (vs := [2, 3]) (al := alive (.tr .non) (enumL 0 (xs.map .str))) (env := [some (.t (.lst (xs.map .str))), none, none, none]) p1 fstI rfl (enumL 0 (xs.map .str)) [] (by rw [el]; simp; omega) (fun t ht => by
    obtain ⟨j, x, rfl, hx⟩ := enum_strs ht
    refine ⟨[some (.t (.lst (xs.map .str))), none, some (.t (.int j)), some (.t (.str x))], [some (.t (.lst (xs.map .str))), none, some (.t (.int j)), some (.t (.str x))], by simp, ?_, ?_⟩
    · simp [slA, eq_k, p1, sndP]
    · simp [fstI, wipeE])
  have dI : ∀ t ∈ cutP (((enumL 0 (xs.map PV.str)).filter p1).map fstI) (some 3) none, dat 62 t = true := fun t ht => by
    have h1 := List.mem_of_mem_drop (List.mem_of_mem_take ht)
    obtain ⟨u, hu, rfl⟩ := List.mem_map.mp h1
    obtain ⟨j, x, rfl, _⟩ := enum_strs (List.mem_filter.mp hu).1
    rfl
  rw [List.nil_append] at c1
  generalize hT : cutP (((enumL 0 (xs.map PV.str)).filter p1).map fstI) (some 3) none = T at dI
  have dT : datL 63 T = true := by rw [datL_all, List.all_eq_true]; exact fun t ht => dat_mono (by omega) (dI t ht)
  let p2 : PV → Bool := fun t => !(T.any fun z => peq z (fstI t))
  have c2 := compL_fil (g := gTpL 2 (gsCons (gNm 2) (gsCons (gNm 3) gsNil))) (et := tBl (eBin ninP (eVar 2) (eVar 1))) (ea := eVar 3) (vs := [2, 3]) (al := alive (.tr .non) (enumL 0 (xs.map .str))) (env := [some (.t (.lst (xs.map .str))), some (.t (.lst T)), none, none]) p2 sndP rfl (enumL 0 (xs.map .str)) [] (by rw [el]; simp; omega) (fun t ht => by
    obtain ⟨j, x, rfl, hx⟩ := enum_strs ht
    have d1 : dat 63 (.int j) = true := rfl
    have ni : ninP (.int j) (.lst T) = some (.bl (!(T.any fun z => peq z (.int j)))) := by simp only [ninP, inB, d1, dT, Bool.and_self, if_true, Option.map_some]
    refine ⟨[some (.t (.lst (xs.map .str))), some (.t (.lst T)), some (.t (.int j)), some (.t (.str x))], [some (.t (.lst (xs.map .str))), some (.t (.lst T)), some (.t (.int j)), some (.t (.str x))], by simp, ?_, ?_⟩
    · simp [ni, p2, fstI]
    · simp [sndP, wipeE])
  rw [List.nil_append] at c2
  obtain ⟨ys, hy, hs⟩ : ∃ ys : List PySem.Str, ((enumL 0 (xs.map PV.str)).filter p2).map sndP = ys.map .str ∧ ∀ y ∈ ys, y ∈ xs := by
    have all : ∀ z ∈ ((enumL 0 (xs.map PV.str)).filter p2).map sndP, ∃ s ∈ xs, z = PV.str s := fun z hz => by
      obtain ⟨u, hu, rfl⟩ := List.mem_map.mp hz
      obtain ⟨j, x, rfl, hx⟩ := enum_strs (List.mem_filter.mp hu).1
      exact ⟨x, hx, rfl⟩
    generalize ((enumL 0 (xs.map PV.str)).filter p2).map sndP = L at all
    induction L with
    | nil => exact ⟨[], rfl, by simp⟩
    | cons z r ih =>
      obtain ⟨s, hs, rfl⟩ := all z List.mem_cons_self
      obtain ⟨ys, rfl, k⟩ := ih fun w hw => all w (List.mem_cons_of_mem _ hw)
      refine ⟨s :: ys, rfl, fun y hy => ?_⟩
      rcases List.mem_cons.mp hy with q | q
      · rw [q]; exact hs
      · exact k y q
  have ln : ys.length ≤ xs.length := by
    have h1 : ys.length = (((enumL 0 (xs.map PV.str)).filter p2).map sndP).length := by rw [hy, List.length_map]
    rw [h1, List.length_map]
    exact Nat.le_trans (List.length_filter_le _ _) (by rw [el]; exact Nat.le_refl _)
  rw [hy] at c2
  refine ⟨ys, ?_, hs, ln⟩
  generalize enumL 0 (xs.map PV.str) = EN at ie c1 c2 hT
  generalize xs.map PV.str = XS at ie c1 c2
  simp [-iEnumS, Lib.F_h_few, fDef, Lib.ev_h_few, ie, c1, slA, hT, c2]
/-! a row drawn: the six names as w0..w5 -/
theorem six {ws : List PySem.Str} (h : ws.length = 6) : ∃ a b c d e f, ws = [a, b, c, d, e, f] := by
  match ws, h with
  | [a, b, c, d, e, f], _ => exact ⟨a, b, c, d, e, f, rfl⟩
theorem ends_spec {ws : List PySem.Str} (h6 : ws.length = 6) (hw : ∀ w ∈ ws, w ∈ pool) (nd : ws.Nodup) {k : Int} (k0 : 0 ≤ k) (k1 : k < 4) :
    ∃ es : List PySem.Str, cutP (ws.map .str) (some 1) (some (2 + k)) = es.map .str ∧ (∀ x ∈ es, x ∈ pool) ∧ 0 < es.length ∧ es.Nodup ∧ es.length ≤ 8 := by
  obtain ⟨j, rfl⟩ : ∃ j : Nat, k = j := ⟨k.toNat, by omega⟩
  have c := cutS_mid ws 1 (2 + j) (by omega)
  refine ⟨(ws.drop 1).take (2 + j - 1), ?_, fun x hx => hw x (List.mem_of_mem_drop (List.mem_of_mem_take hx)), ?_, (nd.sublist (List.drop_sublist _ _)).sublist (List.take_sublist _ _), ?_⟩
  · rw [← c]
    congr 2
  · rw [List.length_take, List.length_drop, h6]; omega
  · rw [List.length_take, List.length_drop, h6]; omega
theorem row_first {n : Int} {o : OS} {ws : List PySem.Str} {o1 o2 : OS} (h6 : ws.length = 6) (hw : ∀ w ∈ ws, w ∈ pool) (q1 : Lib.F_h_names [.ow o, .t (.int 6)] = .ret (.t (.lst (ws.map .str))) [.ow o1, .t (.int 6)]) (q2 : A.F_draw [.ow o1, .t (.int 6)] = .ret (.t (.int 0)) [.ow o2, .t (.int 6)]) :
    ∃ r : Rw, r.Ok ∧ Lib.F_h_row [.ow o] = .ret (.t r.row) [.ow o2] := by
  obtain ⟨a, b, c, d, e, f, rfl⟩ := six h6
  refine ⟨.first a, .first (hw a (by simp)), ?_⟩
  simp only [List.map_cons, List.map_nil] at q1
  simp [Lib.F_h_row, fDef, Lib.ev_h_row, q1, draw_eq, q2, eq_i, lx0, Rw.row]
theorem row_mode {n : Int} {o : OS} {ws : List PySem.Str} {o1 o2 : OS} (h6 : ws.length = 6) (hw : ∀ w ∈ ws, w ∈ pool) (nd : ws.Nodup) (q1 : Lib.F_h_names [.ow o, .t (.int 6)] = .ret (.t (.lst (ws.map .str))) [.ow o1, .t (.int 6)]) (q2 : A.F_draw [.ow o1, .t (.int 6)] = .ret (.t (.int 1)) [.ow o2, .t (.int 6)]) (b2 : IsBox n o2) (hn : n ≤ 2 ^ 38) :
    ∃ (r : Rw) (o' : OS), r.Ok ∧ Lib.F_h_row [.ow o] = .ret (.t r.row) [.ow o'] ∧ IsBox (n + 10) o' := by
  have h0 : ∃ a, a ∈ pool ∧ ixP (.lst (ws.map .str)) (.int 0) = some (.str a) := by
    obtain ⟨a, b, c, d, e, f, rfl⟩ := six h6
    exact ⟨a, hw a (by simp), rfl⟩
  obtain ⟨a, ha, i0⟩ := h0
  obtain ⟨x, o3, q3, hx, b3⟩ := A.pick_spec (xs := [.non, .str "made", .str "gone"]) b2 (by omega) (by decide) (by decide)
  simp only [List.mem_cons, List.not_mem_nil, or_false] at hx
  have main : ∀ w : PySem.Str, w ∈ promL → x = .str w → ∃ (r : Rw) (o' : OS), r.Ok ∧ Lib.F_h_row [.ow o] = .ret (.t r.row) [.ow o'] ∧ IsBox (n + 10) o' := fun w hp e => by
    subst e
    obtain ⟨k, o4, q4, k0, k1, b4⟩ := A.draw_spec (m := 4) b3 (by omega) (by decide) (by decide)
    obtain ⟨es, ce, he, e0, en, e8⟩ := ends_spec h6 hw nd k0 k1
    refine ⟨.mode a (some w) es, o4, .mode1 ha hp he e0 en e8, ?_, b4.mono (by omega)⟩
    generalize ws.map PV.str = W at q1 i0 ce
    simp [Lib.F_h_row, fDef, Lib.ev_h_row, q1, draw_eq, pick_eq, q2, eq_i, i0, q3, addA, q4, slA, ce, Rw.row, prV]
  rcases hx with rfl | rfl | rfl
  · refine ⟨.mode a none [], o3, .mode0 ha, ?_, b3.mono (by omega)⟩
    generalize ws.map PV.str = W at q1 i0
    simp [Lib.F_h_row, fDef, Lib.ev_h_row, q1, draw_eq, pick_eq, q2, eq_i, i0, q3, Rw.row, prV]
  · exact main "made" (by simp [promL]) rfl
  · exact main "gone" (by simp [promL]) rfl
theorem row_turn {n : Int} {o : OS} {ws : List PySem.Str} {o1 o2 : OS} (h6 : ws.length = 6) (hw : ∀ w ∈ ws, w ∈ pool) (nd : ws.Nodup) (q1 : Lib.F_h_names [.ow o, .t (.int 6)] = .ret (.t (.lst (ws.map .str))) [.ow o1, .t (.int 6)]) (q2 : A.F_draw [.ow o1, .t (.int 6)] = .ret (.t (.int 2)) [.ow o2, .t (.int 6)]) (b2 : IsBox n o2) (hn : n ≤ 2 ^ 38) :
    ∃ (r : Rw) (o' : OS), r.Ok ∧ Lib.F_h_row [.ow o] = .ret (.t r.row) [.ow o'] ∧ IsBox (n + 10) o' := by
  have h0 : ∃ a f, a ∈ pool ∧ f ∈ pool ∧ ixP (.lst (ws.map .str)) (.int 0) = some (.str a) ∧ ixP (.lst (ws.map .str)) (.int 5) = some (.str f) := by
    obtain ⟨a, b, c, d, e, f, rfl⟩ := six h6
    exact ⟨a, f, hw a (by simp), hw f (by simp), rfl, rfl⟩
  obtain ⟨a, f, ha, hf, i0, i5⟩ := h0
  obtain ⟨x, o3, q3, hx, b3⟩ := A.pick_spec (xs := [.str "some", .str "all", .str "time"]) b2 (by omega) (by decide) (by decide)
  simp only [List.mem_cons, List.not_mem_nil, or_false] at hx
  have main : ∀ w : PySem.Str, (w = "some" ∨ w = "all") → (w == Str.ofString "time") = false → x = .str w → ∃ (r : Rw) (o' : OS), r.Ok ∧ Lib.F_h_row [.ow o] = .ret (.t r.row) [.ow o'] ∧ IsBox (n + 10) o' := fun w hp hne e => by
    subst e
    have et : eqP (.str w) (.str "time") = some (.bl false) := by rw [eq_k, hne]
    obtain ⟨k, o4, q4, k0, k1, b4⟩ := A.draw_spec (m := 3) b3 (by omega) (by decide) (by decide)
    obtain ⟨es, ce, he, e0, en, e8⟩ := ends_spec h6 hw nd k0 (by omega)
    refine ⟨.turn a w es f, o4, .turn1 ha hp he e0 en e8 hf, ?_, b4.mono (by omega)⟩
    generalize ws.map PV.str = W at q1 i0 i5 ce
    simp [Lib.F_h_row, fDef, Lib.ev_h_row, q1, draw_eq, pick_eq, q2, eq_i, i0, i5, q3, et, addA, q4, slA, ce, Rw.row]
  rcases hx with rfl | rfl | rfl
  · exact main "some" (.inl rfl) (by decide +kernel) rfl
  · exact main "all" (.inr rfl) (by decide +kernel) rfl
  · have et : eqP (.str "time") (.str "time") = some (.bl true) := by rw [eq_k]; simp
    refine ⟨.turn a "time" [] f, o3, .turn0 ha hf, ?_, b3.mono (by omega)⟩
    generalize ws.map PV.str = W at q1 i0 i5
    simp [Lib.F_h_row, fDef, Lib.ev_h_row, q1, draw_eq, pick_eq, q2, eq_i, i0, i5, q3, et, Rw.row]
theorem strs_of {P : PySem.Str → Prop} : ∀ {L : List PV}, (∀ z ∈ L, ∃ s, z = PV.str s ∧ P s) → ∃ ys : List PySem.Str, L = ys.map .str ∧ ∀ y ∈ ys, P y
  | [], _ => ⟨[], rfl, by simp⟩
  | z :: r, h => by
    obtain ⟨s, rfl, hs⟩ := h z List.mem_cons_self
    obtain ⟨ys, rfl, k⟩ := strs_of fun w hw => h w (List.mem_cons_of_mem _ hw)
    refine ⟨s :: ys, rfl, fun y hy => ?_⟩
    rcases List.mem_cons.mp hy with q | q
    · rw [q]; exact hs
    · exact k y q
theorem row_lead {n : Int} {o : OS} {ws : List PySem.Str} {o1 o2 : OS} (h6 : ws.length = 6) (hw : ∀ w ∈ ws, w ∈ pool) (q1 : Lib.F_h_names [.ow o, .t (.int 6)] = .ret (.t (.lst (ws.map .str))) [.ow o1, .t (.int 6)]) (q2 : A.F_draw [.ow o1, .t (.int 6)] = .ret (.t (.int 3)) [.ow o2, .t (.int 6)]) (b2 : IsBox n o2) (hn : n ≤ 2 ^ 38) :
    ∃ (r : Rw) (o' : OS), r.Ok ∧ Lib.F_h_row [.ow o] = .ret (.t r.row) [.ow o'] ∧ IsBox (n + 20) o' := by
  have h0 : ∃ a b c d, a ∈ pool ∧ b ∈ pool ∧ c ∈ pool ∧ d ∈ pool ∧ ixP (.lst (ws.map .str)) (.int 0) = some (.str a) ∧ ixP (.lst (ws.map .str)) (.int 1) = some (.str b) ∧ ixP (.lst (ws.map .str)) (.int 2) = some (.str c) ∧ ixP (.lst (ws.map .str)) (.int 3) = some (.str d) := by
    obtain ⟨a, b, c, d, e, f, rfl⟩ := six h6
    exact ⟨a, b, c, d, hw a (by simp), hw b (by simp), hw c (by simp), hw d (by simp), rfl, rfl, rfl, rfl⟩
  obtain ⟨a, b, c, d, ha, hb, hc, hd, i0, i1, i2, i3⟩ := h0
  obtain ⟨m, o3, q3, hm, b3⟩ := pickP (xs := [a, Str.ofString "any"]) b2 (by omega) (by simp) (by simp)
  obtain ⟨p, o4, q4, hp, b4⟩ := pickP (xs := [b, Str.ofString "any"]) b3 (by omega) (by simp) (by simp)
  obtain ⟨k, o5, q5, k0, k1, b5⟩ := A.draw_spec (m := 4) b4 (by omega) (by decide) (by decide)
  have t1 : (rangeL 0 k.toNat).length ≤ 3 := by rw [rangeL_len]; omega
  obtain ⟨L, e1, c1, l1, p1, o6, he1, b6⟩ := compS (ea := eRes (rCall 2 Lib.F_h_pick [] (aCons (eVar 0) (aCons (eVar 1) aNil)))) (al := alive (.tr .non) (rangeL 0 k.toNat)) (j := 8) 3
    (fun j e => ∃ o', e = [some (.ow o'), some (.t (.lst (ws.map .str))), some (.t (.int 3)), none, none, some (.t (.str m)), some (.t (.str p)), none, none, none, none] ∧ IsBox (n + 3 + j) o') (fun t => ∃ s, t = PV.str s ∧ s ∈ pool) (fun _ _ _ => rfl) (rangeL 0 k.toNat) [] 0 _ (by simp; omega) (by omega) ⟨o5, rfl, b5.mono (by omega)⟩ (fun t ht j e hj h => by
      obtain ⟨o', rfl, hb⟩ := h
      obtain ⟨x, o3, q3, hx, b3⟩ := pickP (xs := ws) hb (by omega) (by omega) (by omega)
      refine ⟨.str x, _, by simp [pick_eq, q3]; rfl, ⟨x, rfl, hw x hx⟩, _, rfl, b3.mono (by omega)⟩)
  subst he1
  obtain ⟨sends, rfl, hs⟩ := strs_of p1
  rw [List.length_map] at l1
  obtain ⟨e, o7, q7, he, b7⟩ := pickP (xs := [c, Str.ofString "time"]) b6 (by omega) (by simp) (by simp)
  obtain ⟨th, o8, q8, ht, b8⟩ := pickP (xs := [d, Str.ofString "same"]) b7 (by omega) (by simp) (by simp)
  have z2 : (-1000000000 ≤ k ∧ k ≤ 1000000000) := by omega
  have or2 : ∀ {x y w : PySem.Str}, y ∈ pool → x ∈ [y, w] → x ∈ pool ∨ x = w := fun hy hx => by
    simp only [List.mem_cons, List.not_mem_nil, or_false] at hx
    rcases hx with rfl | rfl
    · exact .inl hy
    · exact .inr rfl
  refine ⟨.lead m p e th sends, o8, .lead (or2 ha hm) (or2 hb hp) (or2 hc he) (or2 hd ht) hs (by omega), ?_, b8.mono (by omega)⟩
  simp only [List.map_cons, List.map_nil] at q3 q4 q7 q8
  rw [pick_eq] at c1
  generalize ws.map PV.str = W at q1 i0 i1 i2 i3 c1
  simp [Lib.F_h_row, fDef, Lib.ev_h_row, q1, draw_eq, pick_eq, q2, eq_i, i0, i1, i2, i3, q3, q4, q5, z2, c1, q7, q8, Rw.row]
theorem row_house {n : Int} {o : OS} {ws : List PySem.Str} {o1 o2 : OS} {fm : Int} (hfm : fm = 4 ∨ fm = 5) (h6 : ws.length = 6) (hw : ∀ w ∈ ws, w ∈ pool) (q1 : Lib.F_h_names [.ow o, .t (.int 6)] = .ret (.t (.lst (ws.map .str))) [.ow o1, .t (.int 6)]) (q2 : A.F_draw [.ow o1, .t (.int 6)] = .ret (.t (.int fm)) [.ow o2, .t (.int 6)]) (b2 : IsBox n o2) (hn : n ≤ 2 ^ 37) :
    ∃ (r : Rw) (o' : OS), r.Ok ∧ Lib.F_h_row [.ow o] = .ret (.t r.row) [.ow o'] ∧ IsBox (n + 60) o' := by
  have h0 : ∃ a b, a ∈ pool ∧ b ∈ pool ∧ ixP (.lst (ws.map .str)) (.int 0) = some (.str a) ∧ ixP (.lst (ws.map .str)) (.int 1) = some (.str b) := by
    obtain ⟨a, b, c, d, e, f, rfl⟩ := six h6
    exact ⟨a, b, hw a (by simp), hw b (by simp), rfl, rfl⟩
  obtain ⟨a, b, ha, hb, i0, i1⟩ := h0
  obtain ⟨e, o3, q3, he, b3⟩ := pickP (xs := [a, b, Str.ofString "build", Str.ofString "leave", Str.ofString "work", Str.ofString "wipe"]) b2 (by omega) (by simp) (by simp)
  have he' : e ∈ pool ∨ e ∈ plainL := by
    simp only [List.mem_cons, List.not_mem_nil, or_false] at he
    rcases he with rfl | rfl | rfl | rfl | rfl | rfl
    · exact .inl ha
    · exact .inl hb
    · exact .inr (by simp [plainL])
    · exact .inr (by simp [plainL])
    · exact .inr (by simp [plainL])
    · exact .inr (by simp [plainL])
  obtain ⟨k, o5, q5, k0, k1, b5⟩ := A.draw_spec (m := 4) b3 (by omega) (by decide) (by decide)
  have t1 : (rangeL 0 k.toNat).length ≤ 3 := by rw [rangeL_len]; omega
  obtain ⟨L, x1, c1, l1, p1, o6, hx1, b6⟩ := compS (ea := eRes (rCall 2 Lib.F_h_test [] (aCons (eVar 0) (aCons (eVar 1) aNil)))) (al := alive (.tr .non) (rangeL 0 k.toNat)) (j := 8) 3
    (fun j e' => ∃ o', e' = [some (.ow o'), some (.t (.lst (ws.map .str))), some (.t (.int fm)), none, none, none, none, none, none, some (.t (.str e)), none] ∧ IsBox (n + 2 + 4 * j) o') (fun t => ∃ s, t = PV.str s ∧ s ∈ testsL) (fun _ _ _ => rfl) (rangeL 0 k.toNat) [] 0 _ (by simp; omega) (by omega) ⟨o5, rfl, b5.mono (by omega)⟩ (fun t ht j e' hj h => by
      obtain ⟨o', rfl, hb⟩ := h
      obtain ⟨x, o3, q3, hx, b3⟩ := test_spec hb (by omega) hw h6
      refine ⟨.str x, _, by simp [q3]; rfl, ⟨x, rfl, hx⟩, _, rfl, b3.mono (by omega)⟩)
  subst hx1
  obtain ⟨tests, rfl, hts⟩ := strs_of p1
  rw [List.length_map] at l1
  obtain ⟨k2, o7, q7, k20, k21, b7⟩ := A.draw_spec (m := 6) b6 (by omega) (by decide) (by decide)
  have t2 : (rangeL 0 k2.toNat).length ≤ 5 := by rw [rangeL_len]; omega
  obtain ⟨L2, x2, c2, l2, p2, o8, hx2, b8⟩ := compS (ea := eRes (rCall 2 Lib.F_h_deed [] (aCons (eVar 0) (aCons (eVar 1) aNil)))) (al := alive (.tr .non) (rangeL 0 k2.toNat)) (j := 8) 5
    (fun j e' => ∃ o', e' = [some (.ow o'), some (.t (.lst (ws.map .str))), some (.t (.int fm)), none, none, none, none, none, none, some (.t (.str e)), some (.t (.lst (tests.map .str)))] ∧ IsBox (n + 15 + 5 * j) o') (fun t => ∃ s, t = PV.str s ∧ s ∈ deedsL) (fun _ _ _ => rfl) (rangeL 0 k2.toNat) [] 0 _ (by simp; omega) (by omega) ⟨o7, rfl, b7.mono (by omega)⟩ (fun t ht j e' hj h => by
      obtain ⟨o', rfl, hb⟩ := h
      obtain ⟨x, o3, q3, hx, b3⟩ := deed_spec hb (by omega) hw h6
      refine ⟨.str x, _, by simp [q3]; rfl, ⟨x, rfl, hx⟩, _, rfl, b3.mono (by omega)⟩)
  subst hx2
  obtain ⟨deeds, rfl, hds⟩ := strs_of p2
  rw [List.length_map] at l2
  obtain ⟨few, qf, hf, lf⟩ := few_spec (xs := deeds) (by omega)
  have z2 : (-1000000000 ≤ k ∧ k ≤ 1000000000) := by omega
  have z3 : (-1000000000 ≤ k2 ∧ k2 ≤ 1000000000) := by omega
  refine ⟨.house e tests few, o8, .house he' hts (fun x hx => hds x (hf x hx)) (by omega) (by omega), ?_, b8.mono (by omega)⟩
  simp only [List.map_cons, List.map_nil] at q3
  generalize ws.map PV.str = W at q1 i0 i1 c1 c2
  rw [List.nil_append] at c1 c2
  have rt : Rw.row (.house e tests few) = .tup [.str "house", .str e, .lst (tests.map .str), .lst (few.map .str)] := rfl
  rw [rt]
  generalize tests.map PV.str = TT at c1 c2 ⊢
  generalize deeds.map PV.str = DD at c2 qf
  rcases hfm with rfl | rfl
  · simp [Lib.F_h_row, fDef, Lib.ev_h_row, q1, draw_eq, pick_eq, q2, eq_i, i0, i1, q3, q5, z2, c1, q7, z3, c2, qf]
  · simp [Lib.F_h_row, fDef, Lib.ev_h_row, q1, draw_eq, pick_eq, q2, eq_i, i0, i1, q3, q5, z2, c1, q7, z3, c2, qf]
theorem row_spec {n : Int} {o : OS} (h : IsBox n o) (hn : n ≤ 2 ^ 36) : ∃ (r : Rw) (o' : OS), r.Ok ∧ Lib.F_h_row [.ow o] = .ret (.t r.row) [.ow o'] ∧ IsBox (n + 100) o' := by
  obtain ⟨ws, o1, q1, hw, h6, nd, b1⟩ := names6 h (by omega)
  obtain ⟨f, o2, q2, f0, f1, b2⟩ := A.draw_spec (m := 6) b1 (by omega) (by decide) (by decide)
  have hf : f = 0 ∨ f = 1 ∨ f = 2 ∨ f = 3 ∨ (f = 4 ∨ f = 5) := by omega
  rcases hf with rfl | rfl | rfl | rfl | hf
  · obtain ⟨r, ok, e⟩ := row_first (n := n) h6 hw q1 q2
    exact ⟨r, o2, ok, e, b2.mono (by omega)⟩
  · obtain ⟨r, o', ok, e, b⟩ := row_mode h6 hw nd q1 q2 b2 (by omega)
    exact ⟨r, o', ok, e, b.mono (by omega)⟩
  · obtain ⟨r, o', ok, e, b⟩ := row_turn h6 hw nd q1 q2 b2 (by omega)
    exact ⟨r, o', ok, e, b.mono (by omega)⟩
  · obtain ⟨r, o', ok, e, b⟩ := row_lead h6 hw q1 q2 b2 (by omega)
    exact ⟨r, o', ok, e, b.mono (by omega)⟩
  · obtain ⟨r, o', ok, e, b⟩ := row_house hf h6 hw q1 q2 b2 (by omega)
    exact ⟨r, o', ok, e, b.mono (by omega)⟩
end Pr
end
section
/-! PRe: rows' tuples compared; plain Lean. -/
namespace Pr
open PySem PySem.Spec PyProof.Rows L2 TreeL Pw
theorem peqL_strs : ∀ a b : List PySem.Str, peqL (a.map PV.str) (b.map PV.str) = decide (a = b)
  | [], [] => rfl
  | [], _ :: _ => rfl
  | _ :: _, [] => rfl
  | x :: a, y :: b => by
    rw [List.map_cons, List.map_cons, peqL, peqL_strs a b]
    show ((x == y) && decide (a = b)) = _
    cases h : (x == y) with
    | true => rw [eq_of_beq h]; simp
    | false =>
      have : x ≠ y := fun e => by rw [e] at h; simp at h
      simp [this]
theorem row_dat (r : Rw) : dat 64 r.row = true := by
  cases r with
  | mode n pr ends => cases pr <;> simp [Rw.row, prV, dat, datL, datL_str]
  | _ => simp [Rw.row, dat, datL, datL_str]
@[local simp] theorem ke_first_mode : (Str.ofString "first" == Str.ofString "mode") = false := by decide +kernel
@[local simp] theorem ke_first_turn : (Str.ofString "first" == Str.ofString "turn") = false := by decide +kernel
@[local simp] theorem ke_first_lead : (Str.ofString "first" == Str.ofString "lead") = false := by decide +kernel
@[local simp] theorem ke_first_house : (Str.ofString "first" == Str.ofString "house") = false := by decide +kernel
@[local simp] theorem ke_mode_first : (Str.ofString "mode" == Str.ofString "first") = false := by decide +kernel
@[local simp] theorem ke_mode_turn : (Str.ofString "mode" == Str.ofString "turn") = false := by decide +kernel
@[local simp] theorem ke_mode_lead : (Str.ofString "mode" == Str.ofString "lead") = false := by decide +kernel
@[local simp] theorem ke_mode_house : (Str.ofString "mode" == Str.ofString "house") = false := by decide +kernel
@[local simp] theorem ke_turn_first : (Str.ofString "turn" == Str.ofString "first") = false := by decide +kernel
@[local simp] theorem ke_turn_mode : (Str.ofString "turn" == Str.ofString "mode") = false := by decide +kernel
@[local simp] theorem ke_turn_lead : (Str.ofString "turn" == Str.ofString "lead") = false := by decide +kernel
@[local simp] theorem ke_turn_house : (Str.ofString "turn" == Str.ofString "house") = false := by decide +kernel
@[local simp] theorem ke_lead_first : (Str.ofString "lead" == Str.ofString "first") = false := by decide +kernel
@[local simp] theorem ke_lead_mode : (Str.ofString "lead" == Str.ofString "mode") = false := by decide +kernel
@[local simp] theorem ke_lead_turn : (Str.ofString "lead" == Str.ofString "turn") = false := by decide +kernel
@[local simp] theorem ke_lead_house : (Str.ofString "lead" == Str.ofString "house") = false := by decide +kernel
@[local simp] theorem ke_house_first : (Str.ofString "house" == Str.ofString "first") = false := by decide +kernel
@[local simp] theorem ke_house_mode : (Str.ofString "house" == Str.ofString "mode") = false := by decide +kernel
@[local simp] theorem ke_house_turn : (Str.ofString "house" == Str.ofString "turn") = false := by decide +kernel
@[local simp] theorem ke_house_lead : (Str.ofString "house" == Str.ofString "lead") = false := by decide +kernel
theorem beq_dec (a b : PySem.Str) : (a == b) = decide (a = b) := by
  cases h : (a == b) with
  | true => rw [eq_of_beq h]; simp
  | false =>
    have : a ≠ b := fun e => by rw [e] at h; simp at h
    simp [this]
theorem peq_s (a b : PySem.Str) : peq (.str a) (.str b) = decide (a = b) := beq_dec a b
theorem peq_pr (a b : Option PySem.Str) : peq (prV a) (prV b) = decide (a = b) := by
  cases a <;> cases b <;> simp [prV, peq, beq_dec]
theorem peq_l (a b : List PySem.Str) : peq (.lst (a.map .str)) (.lst (b.map .str)) = decide (a = b) := peqL_strs a b
theorem peq_kind {a b : PySem.Str} (h : (a == b) = false) (x y : List PV) : peq (.tup (.str a :: x)) (.tup (.str b :: y)) = false := by
  show ((a == b) && peqL x y) = false
  rw [h]; rfl
theorem row_peq (r q : Rw) : peq r.row q.row = true ↔ r = q := by
  cases r <;> cases q <;> first
    | (rw [Rw.row, Rw.row, peq_kind (by decide +kernel)]; simp; done)
    | (simp [Rw.row, peq, peqL, peq_pr, peqL_strs, beq_dec]; done)
end Pr
end
section
/-! law k04: the plain law. -/
namespace Lk04
open PySem PySem.Spec PyProof.Rows L2 TreeL Pw Pr
@[local simp] theorem LIM_eq : LIM = 1000000 := rfl
theorem sort_spec (r : Rw) : Lib.F_h_sort ks [.t r.ins] = .ret (.t (.lst [.bl (r.k == 1), .bl (r.k == 2), .bl (r.k == 3), .bl (r.k == 4), .bl (r.k == 5)])) [.t r.ins] := by
  cases r <;> simp [Lib.F_h_sort, fDef, Lib.ev_h_sort, Rw.ins, Rw.k, addA]
@[local simp] theorem kf_first_mode : (Str.ofString "first" == Str.ofString "mode") = false := by decide +kernel
@[local simp] theorem kf_first_turn : (Str.ofString "first" == Str.ofString "turn") = false := by decide +kernel
@[local simp] theorem kf_first_lead : (Str.ofString "first" == Str.ofString "lead") = false := by decide +kernel
@[local simp] theorem kf_first_house : (Str.ofString "first" == Str.ofString "house") = false := by decide +kernel
@[local simp] theorem kf_mode_first : (Str.ofString "mode" == Str.ofString "first") = false := by decide +kernel
@[local simp] theorem kf_mode_turn : (Str.ofString "mode" == Str.ofString "turn") = false := by decide +kernel
@[local simp] theorem kf_mode_lead : (Str.ofString "mode" == Str.ofString "lead") = false := by decide +kernel
@[local simp] theorem kf_mode_house : (Str.ofString "mode" == Str.ofString "house") = false := by decide +kernel
@[local simp] theorem kf_turn_first : (Str.ofString "turn" == Str.ofString "first") = false := by decide +kernel
@[local simp] theorem kf_turn_mode : (Str.ofString "turn" == Str.ofString "mode") = false := by decide +kernel
@[local simp] theorem kf_turn_lead : (Str.ofString "turn" == Str.ofString "lead") = false := by decide +kernel
@[local simp] theorem kf_turn_house : (Str.ofString "turn" == Str.ofString "house") = false := by decide +kernel
@[local simp] theorem kf_lead_first : (Str.ofString "lead" == Str.ofString "first") = false := by decide +kernel
@[local simp] theorem kf_lead_mode : (Str.ofString "lead" == Str.ofString "mode") = false := by decide +kernel
@[local simp] theorem kf_lead_turn : (Str.ofString "lead" == Str.ofString "turn") = false := by decide +kernel
@[local simp] theorem kf_lead_house : (Str.ofString "lead" == Str.ofString "house") = false := by decide +kernel
@[local simp] theorem kf_house_first : (Str.ofString "house" == Str.ofString "first") = false := by decide +kernel
@[local simp] theorem kf_house_mode : (Str.ofString "house" == Str.ofString "mode") = false := by decide +kernel
@[local simp] theorem kf_house_turn : (Str.ofString "house" == Str.ofString "turn") = false := by decide +kernel
@[local simp] theorem kf_house_lead : (Str.ofString "house" == Str.ofString "lead") = false := by decide +kernel
def sortsV : PV := .lst [.str "first", .str "mode", .str "turn", .str "lead", .str "house"]
def dueV (r : Rw) : PV := .lst [.bl (r.k == 1), .bl (r.k == 2), .bl (r.k == 3), .bl (r.k == 4), .bl (r.k == 5)]
theorem due_comp (r : Rw) {a b d f g h i j : Option TreeL.Arg} : (sAsg (eOf (fComp (iAny [0] (eVar 2)) (gNm 10) tYesT (eBin eqP (eVar 10) (eBin ixP (eVar 4) (eCon (.int 0)))) [10])) (gNm 9)) [a, b, some (.t sortsV), d, some (.t r.row), f, g, h, i, j, none] = .nx [a, b, some (.t sortsV), d, some (.t r.row), f, g, h, i, some (.t (dueV r)), none] := by
  cases r <;> simp [sortsV, dueV, compL, Rw.row, Rw.k, ix0, eq_k]
theorem eq_rows (r q : Rw) : eqP r.row q.row = some (.bl (peq r.row q.row)) := by
  unfold eqP
  rw [row_dat, row_dat]
  rfl
theorem txt_peq {r q : Rw} (hr : r.Ok) (hq : q.Ok) : (r.txt == q.txt) = peq r.row q.row := by
  cases h : peq r.row q.row with
  | true => rw [(row_peq r q).mp h]; simp
  | false =>
    cases g : (r.txt == q.txt) with
    | false => rfl
    | true =>
      have := txt_inj hr hq (eq_of_beq g)
      rw [(row_peq r q).mpr this] at h
      cases h
theorem ne_dues (r : Rw) : neP (dueV r) (dueV r) = some (.bl false) := by
  have d : dat 64 (dueV r) = true := rfl
  have p := peq_self d
  simp [neP, d, p]
theorem ne_refl (s : PySem.Str) : neP (.str s) (.str s) = some (.bl false) := by
  have d : dat 64 (.str s) = true := rfl
  have p := peq_self d
  simp [neP, d, p]
theorem eq_strs (s t : PySem.Str) : eqP (.str s) (.str t) = some (.bl (s == t)) := rfl
theorem dun_ok {r q : Rw} (hr : r.Ok) (hq : q.Ok) {g : TreeL.Arg → Option TreeL.Arg} {ea eb : EvE} {env e1 e2 : En} (ha : ea env = .ok (.tr r.ins) e1) (hb : eb e1 = .ok (.tr q.ins) e2) : rDun2L [1, 2, 3, 4, 5] (Lib.F_Row___eq__ ks) g ea eb env = ofO (g (.t (.bl (r.txt == q.txt)))) e2 := by
  have e := eq_ok hr hq
  have i1 : isInsL [1, 2, 3, 4, 5] e2 (.tr r.ins) = true := by cases r <;> rfl
  have i2 : isInsL [1, 2, 3, 4, 5] e2 (.tr q.ins) = true := by cases q <;> rfl
  unfold rDun2L
  rw [ha]
  show RE.bind (eb e1) _ = _
  rw [hb]
  show (if isInsL [1, 2, 3, 4, 5] e2 (.tr r.ins) && isInsL [1, 2, 3, 4, 5] e2 (.tr q.ins) then _ else _) = _
  rw [i1, i2]
  generalize r.ins = R at e
  generalize q.ins = Q at e
  simp [callOf, e]
theorem rcA : ∀ kc n F ds el env, rCls kc n F ds el env = rCall n F ds (fun env => (el env).bind fun xs e => .ok (.tr (.cls kc) :: xs) e) env := fun _ _ _ _ _ _ => rfl
theorem eRes_of {ev : EvR} {env e1 : En} {x : PV} (h : ev env = .ok (.t x) e1) : eRes ev env = .ok (.tr x) e1 := by unfold eRes; rw [h]; rfl
theorem read_E {r : Rw} (h : r.Ok) {ea : EvE} {env e1 : En} (q : ea env = .ok (.tr (.str r.txt)) e1) : eRes (rCls 0 2 (Lib.F_Row_read ks) [] (aCons ea aNil)) env = .ok (.tr r.ins) e1 := by
  have e := read_ok h
  generalize r.ins = R at e ⊢
  generalize r.txt = T at e q
  simp [rcA, q, e]
theorem law_turn {n : Int} {o : OS} {ns : List Int} {a c d f g h i : Option TreeL.Arg} (hb : IsBox n o) (hn : n ≤ 2 ^ 35) :
    ∃ (o' : OS) (c' d' f' g' h' i' : Option TreeL.Arg), eb_law_1 [some (.t (.scr ns)), some (.ow o), some (.t sortsV), a, c, d, f, g, h, i, none] = .nx [some (.t (.scr ns)), some (.ow o'), some (.t sortsV), a, c', d', f', g', h', i', none] ∧ IsBox (n + 200) o' := by
  obtain ⟨r, o1, rk, q1, b1⟩ := row_spec hb (by omega)
  obtain ⟨q, o2, qk, q2, b2⟩ := row_spec b1 (by omega)
  refine ⟨o2, some (.t r.row), some (.t q.row), some (.t r.ins), some (.t (.str r.txt)), some (.t r.ins), some (.t (dueV r)), ?_, b2.mono (by omega)⟩
  have mr := made_ok rk
  have mq := made_ok qk
  have tr := text_ok rk
  have tq := text_ok qk
  have dc := due_comp r (a := some (.t (.scr ns))) (b := some (.ow o2)) (d := a) (f := some (.t q.row)) (g := some (.t r.ins)) (h := some (.t (.str r.txt))) (i := some (.t r.ins)) (j := i)
  have so := sort_spec r
  have nd := ne_dues r
  have ps := txt_peq rk qk
  have e1 := eq_rows r q
  have nt := ne_refl r.txt
  have nq := ne_refl q.txt
  have s1 : (sAsg (eTup (aCons (eRes (rCall 1 Lib.F_h_row [] (aCons (eVar 1) aNil))) (aCons (eRes (rCall 1 Lib.F_h_row [] (aCons (eVar 1) aNil))) aNil))) (gTpL 2 (gsCons (gNm 4) (gsCons (gNm 5) gsNil)))) [some (.t (.scr ns)), some (.ow o), some (.t sortsV), a, c, d, f, g, h, i, none] = .nx [some (.t (.scr ns)), some (.ow o2), some (.t sortsV), a, some (.t r.row), some (.t q.row), f, g, h, i, none] := by
    generalize r.row = R at q1 ⊢
    generalize q.row = Q at q2 ⊢
    simp [q1, q2]
  have s2 : (sPar 6 7 (bCons (rTree (eRes (rCall 1 (Lib.F_h_made ks) [] (aCons (eVar 4) aNil)))) (bCons (rTree (eRes (rCall 1 Lib.F_h_text [] (aCons (eVar 4) aNil)))) bNil))) [some (.t (.scr ns)), some (.ow o2), some (.t sortsV), a, some (.t r.row), some (.t q.row), f, g, h, i, none] = .nx [some (.t (.scr ns)), some (.ow o2), some (.t sortsV), a, some (.t r.row), some (.t q.row), some (.t r.ins), some (.t (.str r.txt)), h, i, none] := by
    generalize r.row = R at mr tr ⊢
    generalize r.ins = I at mr ⊢
    simp [mr, tr]
  have s3 : (sAsg (eRes (rCls 0 2 (Lib.F_Row_read ks) [] (aCons (eVar 7) aNil))) (gNm 8)) [some (.t (.scr ns)), some (.ow o2), some (.t sortsV), a, some (.t r.row), some (.t q.row), some (.t r.ins), some (.t (.str r.txt)), h, i, none] = .nx [some (.t (.scr ns)), some (.ow o2), some (.t sortsV), a, some (.t r.row), some (.t q.row), some (.t r.ins), some (.t (.str r.txt)), some (.t r.ins), i, none] := by
    unfold sAsg
    rw [read_E rk (ea := eVar 7) (e1 := [some (.t (.scr ns)), some (.ow o2), some (.t sortsV), a, some (.t r.row), some (.t q.row), some (.t r.ins), some (.t (.str r.txt)), h, i, none]) rfl]
    rfl
  have s4 : (sIf (tOrr (tBl (eBin neP (eRes (strE (eVar 6))) (eVar 7))) (tOrr (tBl (eBin neP (eRes (strE (eVar 8))) (eVar 7))) (tTst (rDun2L [1, 2, 3, 4, 5] (Lib.F_Row___eq__ ks) gNot (eVar 8) (eVar 6))))) (sRet [0] (eCon (.bl false))) sSkip) [some (.t (.scr ns)), some (.ow o2), some (.t sortsV), a, some (.t r.row), some (.t q.row), some (.t r.ins), some (.t (.str r.txt)), some (.t r.ins), i, none] = .nx [some (.t (.scr ns)), some (.ow o2), some (.t sortsV), a, some (.t r.row), some (.t q.row), some (.t r.ins), some (.t (.str r.txt)), some (.t r.ins), i, none] := by
    have x6 := str_E rk (ea := eVar 6) (env := [some (.t (.scr ns)), some (.ow o2), some (.t sortsV), a, some (.t r.row), some (.t q.row), some (.t r.ins), some (.t (.str r.txt)), some (.t r.ins), i, none]) (e1 := [some (.t (.scr ns)), some (.ow o2), some (.t sortsV), a, some (.t r.row), some (.t q.row), some (.t r.ins), some (.t (.str r.txt)), some (.t r.ins), i, none]) rfl
    have x8 := str_E rk (ea := eVar 8) (env := [some (.t (.scr ns)), some (.ow o2), some (.t sortsV), a, some (.t r.row), some (.t q.row), some (.t r.ins), some (.t (.str r.txt)), some (.t r.ins), i, none]) (e1 := [some (.t (.scr ns)), some (.ow o2), some (.t sortsV), a, some (.t r.row), some (.t q.row), some (.t r.ins), some (.t (.str r.txt)), some (.t r.ins), i, none]) rfl
    have x9 := dun_ok rk rk (g := gNot) (ea := eVar 8) (eb := eVar 6) (env := [some (.t (.scr ns)), some (.ow o2), some (.t sortsV), a, some (.t r.row), some (.t q.row), some (.t r.ins), some (.t (.str r.txt)), some (.t r.ins), i, none]) (e1 := [some (.t (.scr ns)), some (.ow o2), some (.t sortsV), a, some (.t r.row), some (.t q.row), some (.t r.ins), some (.t (.str r.txt)), some (.t r.ins), i, none]) (e2 := [some (.t (.scr ns)), some (.ow o2), some (.t sortsV), a, some (.t r.row), some (.t q.row), some (.t r.ins), some (.t (.str r.txt)), some (.t r.ins), i, none]) rfl rfl
    generalize r.row = R at x6 x8 x9 ⊢
    generalize r.ins = I at x6 x8 x9 ⊢
    simp [x6, x8, x9, nt, gNot]
  have s5 : (sIf (tBl (eBin neP (eRes (rCall 1 Lib.F_h_text [] (aCons (eVar 5) aNil))) (eRes (strE (eRes (rCls 0 2 (Lib.F_Row_read ks) [] (aCons (eRes (rCall 1 Lib.F_h_text [] (aCons (eVar 5) aNil))) aNil))))))) (sRet [0] (eCon (.bl false))) sSkip) [some (.t (.scr ns)), some (.ow o2), some (.t sortsV), a, some (.t r.row), some (.t q.row), some (.t r.ins), some (.t (.str r.txt)), some (.t r.ins), i, none] = .nx [some (.t (.scr ns)), some (.ow o2), some (.t sortsV), a, some (.t r.row), some (.t q.row), some (.t r.ins), some (.t (.str r.txt)), some (.t r.ins), i, none] := by
    have y1 : eRes (rCall 1 Lib.F_h_text [] (aCons (eVar 5) aNil)) [some (.t (.scr ns)), some (.ow o2), some (.t sortsV), a, some (.t r.row), some (.t q.row), some (.t r.ins), some (.t (.str r.txt)), some (.t r.ins), i, none] = .ok (.tr (.str q.txt)) [some (.t (.scr ns)), some (.ow o2), some (.t sortsV), a, some (.t r.row), some (.t q.row), some (.t r.ins), some (.t (.str r.txt)), some (.t r.ins), i, none] := by
      generalize q.row = R at tq ⊢
      simp [tq]
    have y2 := read_E qk y1
    have y3 := str_E qk y2
    generalize hE : eRes (strE (eRes (rCls 0 2 (Lib.F_Row_read ks) [] (aCons (eRes (rCall 1 Lib.F_h_text [] (aCons (eVar 5) aNil))) aNil)))) = E
    have y4 : E [some (.t (.scr ns)), some (.ow o2), some (.t sortsV), a, some (.t r.row), some (.t q.row), some (.t r.ins), some (.t (.str r.txt)), some (.t r.ins), i, none] = .ok (.tr (.str q.txt)) [some (.t (.scr ns)), some (.ow o2), some (.t sortsV), a, some (.t r.row), some (.t q.row), some (.t r.ins), some (.t (.str r.txt)), some (.t r.ins), i, none] := by
      rw [← hE]
      exact eRes_of y3
    generalize hF : eRes (rCall 1 Lib.F_h_text [] (aCons (eVar 5) aNil)) = F at y1 ⊢
    simp [y1, y4, nq]
  have s7 : (sIf (tOrr (tBl (eBin neP (eRes (rCall 1 (Lib.F_h_sort ks) [] (aCons (eVar 6) aNil))) (eVar 9))) (tBl (eBin neP (eRes (rCall 1 (Lib.F_h_sort ks) [] (aCons (eVar 8) aNil))) (eVar 9)))) (sRet [0] (eCon (.bl false))) sSkip) [some (.t (.scr ns)), some (.ow o2), some (.t sortsV), a, some (.t r.row), some (.t q.row), some (.t r.ins), some (.t (.str r.txt)), some (.t r.ins), some (.t (dueV r)), none] = .nx [some (.t (.scr ns)), some (.ow o2), some (.t sortsV), a, some (.t r.row), some (.t q.row), some (.t r.ins), some (.t (.str r.txt)), some (.t r.ins), some (.t (dueV r)), none] := by
    change Lib.F_h_sort ks [.t r.ins] = .ret (.t (dueV r)) [.t r.ins] at so
    generalize r.ins = I at so ⊢
    generalize dueV r = D at so nd ⊢
    simp [so, nd]
  have s8 : (sIf (tOrr (tBl (eBin neP (eBin eqP (eVar 4) (eVar 5)) (eBin eqP (eVar 7) (eRes (rCall 1 Lib.F_h_text [] (aCons (eVar 5) aNil)))))) (tBl (eBin neP (eRes (rDun2L [1, 2, 3, 4, 5] (Lib.F_Row___eq__ ks) gBl (eVar 6) (eRes (rCall 1 (Lib.F_h_made ks) [] (aCons (eVar 5) aNil))))) (eBin eqP (eVar 4) (eVar 5))))) (sRet [0] (eCon (.bl false))) sSkip) [some (.t (.scr ns)), some (.ow o2), some (.t sortsV), a, some (.t r.row), some (.t q.row), some (.t r.ins), some (.t (.str r.txt)), some (.t r.ins), some (.t (dueV r)), none] = .nx [some (.t (.scr ns)), some (.ow o2), some (.t sortsV), a, some (.t r.row), some (.t q.row), some (.t r.ins), some (.t (.str r.txt)), some (.t r.ins), some (.t (dueV r)), none] := by
    have y1 : eRes (rCall 1 (Lib.F_h_made ks) [] (aCons (eVar 5) aNil)) [some (.t (.scr ns)), some (.ow o2), some (.t sortsV), a, some (.t r.row), some (.t q.row), some (.t r.ins), some (.t (.str r.txt)), some (.t r.ins), some (.t (dueV r)), none] = .ok (.tr q.ins) [some (.t (.scr ns)), some (.ow o2), some (.t sortsV), a, some (.t r.row), some (.t q.row), some (.t r.ins), some (.t (.str r.txt)), some (.t r.ins), some (.t (dueV r)), none] := by
      generalize q.row = R at mq ⊢
      generalize q.ins = I at mq ⊢
      simp [mq]
    have y2 := dun_ok rk qk (g := gBl) (ea := eVar 6) (env := [some (.t (.scr ns)), some (.ow o2), some (.t sortsV), a, some (.t r.row), some (.t q.row), some (.t r.ins), some (.t (.str r.txt)), some (.t r.ins), some (.t (dueV r)), none]) (e1 := [some (.t (.scr ns)), some (.ow o2), some (.t sortsV), a, some (.t r.row), some (.t q.row), some (.t r.ins), some (.t (.str r.txt)), some (.t r.ins), some (.t (dueV r)), none]) rfl y1
    have es := eq_strs r.txt q.txt
    rw [ps] at y2 es
    generalize peq r.row q.row = B at y2 es e1
    generalize rDun2L [1, 2, 3, 4, 5] (Lib.F_Row___eq__ ks) gBl (eVar 6) (eRes (rCall 1 (Lib.F_h_made ks) [] (aCons (eVar 5) aNil))) = Z at y2 ⊢
    clear y1 mq mr tr dc so nd s1 s2 s3 s4 s5 s7 ps q1 q2
    generalize r.row = R at *
    generalize q.row = Q at *
    generalize r.ins = I at *
    generalize dueV r = D at *
    generalize r.txt = T at *
    generalize q.txt = T2 at *
    simp [tq, e1, es, y2, gBl, Pr.nbb]
  unfold strE at s4 s5
  unfold eb_law_1
  rw [seq_nxR s1, seq_nxR s2, seq_nxR s3, seq_nxR s4, seq_nxR s5, seq_nxR dc, seq_nxR s7, s8]
theorem plain (ns : List Int) (hl : ns.length ≤ 63) : ∃ as, F_law [.t (.scr ns)] = .ret (.t (.bl true)) as := by
  obtain ⟨o, q0, b0⟩ := A.deal_spec ns 0 (by decide) hl
  have lp : ∃ e, sFor (iRngA (aCons (eCon (.int 14)) aNil)) (gNm 3) eb_law_1 [some (.t (.scr ns)), some (.ow o), some (.t sortsV), none, none, none, none, none, none, none, none] = .nx e ∧
      ∃ o' a b c d e2 f g, e = [some (.t (.scr ns)), some (.ow o'), some (.t sortsV), a, b, c, d, e2, f, g, none] := by
    refine sat_nx ?_
    have z : iRngA (aCons (eCon (.int 14)) aNil) [some (.t (.scr ns)), some (.ow o), some (.t sortsV), none, none, none, none, none, none, none, none] = .ok ⟨rangeL 0 14, .tr .non⟩ [some (.t (.scr ns)), some (.ow o), some (.t sortsV), none, none, none, none, none, none, none, none] := by simp
    simp only [sFor, z, RE.so]
    refine loopF_sat (fun ts e => ts.length ≤ 14 ∧ ∃ o' a b c d e2 f g, e = [some (.t (.scr ns)), some (.ow o'), some (.t sortsV), a, b, c, d, e2, f, g, none] ∧ IsBox (200 * (14 - ts.length : Int)) o') (fun _ _ _ => rfl) (fun _ h => ?_) ?_ _ _ ⟨by rw [rangeL_len]; exact Nat.le_refl _, o, none, none, none, none, none, none, none, rfl, by rw [rangeL_len]; exact b0⟩
    · obtain ⟨_, o', a, b, c, d, e2, f, g, rfl, _⟩ := h
      exact ⟨o', a, b, c, d, e2, f, g, rfl⟩
    · rintro t ts env ⟨hl, o', a, b, c, d, e2, f, g, rfl, hb⟩
      rw [List.length_cons] at hl hb
      refine ⟨_, rfl, ?_⟩
      obtain ⟨o2, c', d', f', g', h', i', e1, b1⟩ := law_turn (a := some (.t t)) (c := b) (d := c) (f := d) (g := e2) (h := f) (i := g) (ns := ns) hb (by omega)
      simp only [List.set_cons_succ, List.set_cons_zero, e1, SO.Sat]
      exact ⟨by omega, o2, _, _, _, _, _, _, _, rfl, b1.mono (by omega)⟩
  obtain ⟨e, lp1, o', a, b, c, d, e2, f, g, rfl⟩ := lp
  unfold sortsV at lp1
  exact ⟨[.t (.scr ns)], by simp [F_law, fDef, ev_law, deal_eq, q0, lp1]⟩
end Lk04
end
section
/-! law k04: the walk, the head; printed by wip/gen2.py -/
namespace Lk04
open PySem PySem.Spec PyProof.Rows L2 TreeL
def top (i : Nat) : Stmt := PySem.Challenge.pw_stepsback_k04_texts_of_rows.main.body.getD i (.Pass ⟨0, 0, 0, 0⟩)
def cs : List PySem.Str := ["Row", "First", "Mode", "Turn", "Lead", "House", "Weaving", "Plan", "Single", "Played", "Course", "Entry", "Ways", "Paths", "Task", "Tasks", "Trial", "Room", "Desk", "StepError", "InvalidRow", "InvalidPlan", "InvalidText", "InvalidEvent", "InvalidTask", "Refused", "InvalidGoal", "InvalidCommand", "Mismatch", "NoRow", "NoEvent", "NoName"]
structure Fx (P : Program) (K : PySem.W.Frag) (mg : PySem.Str → Option Value) : Prop where
  f_abs : mg "abs" = none
  f_int : mg "int" = none
  g__law_deal : mg "_law_deal" = some (.ref (He.ga K "_law_deal"))
  f_range : mg "range" = none
  f_list : mg "list" = none
  f_len : mg "len" = none
  g__law_draw : mg "_law_draw" = some (.ref (He.ga K "_law_draw"))
  g__law_pool : mg "_law_pool" = some (.ref (He.ga K "_law_pool"))
  g__law_mixed : mg "_law_mixed" = some (.ref (He.ga K "_law_mixed"))
  g__law_names : mg "_law_names" = some (.ref (He.ga K "_law_names"))
  g__law_pick : mg "_law_pick" = some (.ref (He.ga K "_law_pick"))
  g__law_test : mg "_law_test" = some (.ref (He.ga K "_law_test"))
  f_enumerate : mg "enumerate" = none
  g__law_deed : mg "_law_deed" = some (.ref (He.ga K "_law_deed"))
  g__law_few : mg "_law_few" = some (.ref (He.ga K "_law_few"))
  g__law_row : mg "_law_row" = some (.ref (He.ga K "_law_row"))
  g__law_text : mg "_law_text" = some (.ref (He.ga K "_law_text"))
  is_str : isiB cs ks [.str] [.ty "str"] K = true
  q_Row : IsiC K (He.ga K "Row")
  q_First : IsiC K (He.ga K "First")
  q_Mode : IsiC K (He.ga K "Mode")
  q_Turn : IsiC K (He.ga K "Turn")
  q_Lead : IsiC K (He.ga K "Lead")
  q_House : IsiC K (He.ga K "House")
  f_isinstance : mg "isinstance" = none
  f_str : mg "str" = none
  g_BARRED : mg "BARRED" = some (.ref (He.ga K "BARRED"))
  t_BARRED : ∀ H, SqT K H (He.ga K "BARRED") ((["and", "any", "do", "if", "none", "not", "same", "send", "then", "time", "to", "wipe", "work"] : List PySem.Str).map V.str)
  s_SMALL : ∃ t, mg "SMALL" = some (.str "abcdefghijklmnopqrstuvwxyz" t)
  f_all : mg "all" = none
  g_is_name : mg "is_name" = some (.ref (He.ga K "is_name"))
  x1_InvalidRow : (fun K => xcB1 XB.value "word" (He.ga K "InvalidRow") K) K = true
  x2_InvalidRow : (fun K => xcB2 "word" PySem.Challenge.pw_stepsback_k04_texts_of_rows.main.file (He.ga K "InvalidRow") K) K = true
  x3_InvalidRow : (fun K => xcB3 XB.value "word" (He.ga K "InvalidRow") K) K = true
  x4_InvalidRow : (fun K => xcB4 "word" (He.ga K "InvalidRow") K) K = true
  x5_InvalidRow : (fun K => xcB5 (He.ga K "InvalidRow") K) K = true
  g_InvalidRow : mg "InvalidRow" = some (.ref (He.ga K "InvalidRow"))
  c_First : Cls K (He.ga K "First")
  n_First__place : NoAttr K (He.ga K "First") "place"
  k_First : Mk K (He.ga K "First") (He.ma K (He.ga K "First") "__init__")
  g_First : mg "First" = some (.ref (He.ga K "First"))
  g_PROMISES : mg "PROMISES" = some (.ref (He.ga K "PROMISES"))
  t_PROMISES : ∀ H, SqT K H (He.ga K "PROMISES") ((["made", "gone"] : List PySem.Str).map V.str)
  g_is_word : mg "is_word" = some (.ref (He.ga K "is_word"))
  is_list_tuple : isiB cs ks [.lst, .tup] [.ty "list", .ty "tuple"] K = true
  f_tuple : mg "tuple" = none
  g_is_sequence : mg "is_sequence" = some (.ref (He.ga K "is_sequence"))
  g_are_names : mg "are_names" = some (.ref (He.ga K "are_names"))
  g_are_unlike_names : mg "are_unlike_names" = some (.ref (He.ga K "are_unlike_names"))
  c_Mode : Cls K (He.ga K "Mode")
  n_Mode__name : NoAttr K (He.ga K "Mode") "name"
  n_Mode__promise : NoAttr K (He.ga K "Mode") "promise"
  n_Mode__ends : NoAttr K (He.ga K "Mode") "ends"
  k_Mode : Mk K (He.ga K "Mode") (He.ma K (He.ga K "Mode") "__init__")
  g_Mode : mg "Mode" = some (.ref (He.ga K "Mode"))
  g_WAYS : mg "WAYS" = some (.ref (He.ga K "WAYS"))
  t_WAYS : ∀ H, SqT K H (He.ga K "WAYS") ((["some", "all", "time"] : List PySem.Str).map V.str)
  c_Turn : Cls K (He.ga K "Turn")
  n_Turn__mode : NoAttr K (He.ga K "Turn") "mode"
  n_Turn__way : NoAttr K (He.ga K "Turn") "way"
  n_Turn__places : NoAttr K (He.ga K "Turn") "places"
  n_Turn__then : NoAttr K (He.ga K "Turn") "then"
  k_Turn : Mk K (He.ga K "Turn") (He.ma K (He.ga K "Turn") "__init__")
  g_Turn : mg "Turn" = some (.ref (He.ga K "Turn"))
  c_Lead : Cls K (He.ga K "Lead")
  n_Lead__mode : NoAttr K (He.ga K "Lead") "mode"
  n_Lead__place : NoAttr K (He.ga K "Lead") "place"
  n_Lead__event : NoAttr K (He.ga K "Lead") "event"
  n_Lead__then : NoAttr K (He.ga K "Lead") "then"
  n_Lead__sends : NoAttr K (He.ga K "Lead") "sends"
  k_Lead : Mk K (He.ga K "Lead") (He.ma K (He.ga K "Lead") "__init__")
  g_Lead : mg "Lead" = some (.ref (He.ga K "Lead"))
  g_PLAIN_EVENTS : mg "PLAIN_EVENTS" = some (.ref (He.ga K "PLAIN_EVENTS"))
  t_PLAIN_EVENTS : ∀ H, SqT K H (He.ga K "PLAIN_EVENTS") ((["build", "leave", "work", "wipe"] : List PySem.Str).map V.str)
  g_PLAIN_TESTS : mg "PLAIN_TESTS" = some (.ref (He.ga K "PLAIN_TESTS"))
  t_PLAIN_TESTS : ∀ H, SqT K H (He.ga K "PLAIN_TESTS") ((["made", "built"] : List PySem.Str).map V.str)
  g_is_phase : mg "is_phase" = some (.ref (He.ga K "is_phase"))
  g_is_test : mg "is_test" = some (.ref (He.ga K "is_test"))
  g_PLAIN_DEEDS : mg "PLAIN_DEEDS" = some (.ref (He.ga K "PLAIN_DEEDS"))
  t_PLAIN_DEEDS : ∀ H, SqT K H (He.ga K "PLAIN_DEEDS") ((["make", "take", "grip", "free"] : List PySem.Str).map V.str)
  g_NAMED_DEEDS : mg "NAMED_DEEDS" = some (.ref (He.ga K "NAMED_DEEDS"))
  t_NAMED_DEEDS : ∀ H, SqT K H (He.ga K "NAMED_DEEDS") ((["mark", "clear", "send"] : List PySem.Str).map V.str)
  g_is_deed : mg "is_deed" = some (.ref (He.ga K "is_deed"))
  c_House : Cls K (He.ga K "House")
  n_House__event : NoAttr K (He.ga K "House") "event"
  n_House__tests : NoAttr K (He.ga K "House") "tests"
  n_House__deeds : NoAttr K (He.ga K "House") "deeds"
  k_House : Mk K (He.ga K "House") (He.ma K (He.ga K "House") "__init__")
  g_House : mg "House" = some (.ref (He.ga K "House"))
  g__law_made : mg "_law_made" = some (.ref (He.ga K "_law_made"))
  g_joined : mg "joined" = some (.ref (He.ga K "joined"))
  g_lead_in : mg "lead_in" = some (.ref (He.ga K "lead_in"))
  g_parted : mg "parted" = some (.ref (He.ga K "parted"))
  g_house_in : mg "house_in" = some (.ref (He.ga K "house_in"))
  g_row_in : mg "row_in" = some (.ref (He.ga K "row_in"))
  em_20_20 : exmB cs [20] [20] 20 K = true
  m_House____str__ : Meth K (He.ga K "House") "__str__" (He.ma K (He.ga K "House") "__str__")
  m_Lead____str__ : Meth K (He.ga K "Lead") "__str__" (He.ma K (He.ga K "Lead") "__str__")
  m_Turn____str__ : Meth K (He.ga K "Turn") "__str__" (He.ma K (He.ga K "Turn") "__str__")
  m_Mode____str__ : Meth K (He.ga K "Mode") "__str__" (He.ma K (He.ga K "Mode") "__str__")
  m_First____str__ : Meth K (He.ga K "First") "__str__" (He.ma K (He.ga K "First") "__str__")
  x1_InvalidText : (fun K => xcB1 XB.value "at" (He.ga K "InvalidText") K) K = true
  x2_InvalidText : (fun K => xcB2 "at" PySem.Challenge.pw_stepsback_k04_texts_of_rows.main.file (He.ga K "InvalidText") K) K = true
  x3_InvalidText : (fun K => xcB3 XB.value "at" (He.ga K "InvalidText") K) K = true
  x4_InvalidText : (fun K => xcB4 "at" (He.ga K "InvalidText") K) K = true
  x5_InvalidText : (fun K => xcB5 (He.ga K "InvalidText") K) K = true
  g_InvalidText : mg "InvalidText" = some (.ref (He.ga K "InvalidText"))
  g_Row : mg "Row" = some (.ref (He.ga K "Row"))
  cr_Row : ClX.CRead K (He.ga K "Row") (.type "type")
  cm_Row__read : ClX.CMet K (He.ga K "Row") (.type "type") "read" (He.ma K (He.ga K "Row") "read") (He5.wf K (He.ga K "Row") "classmethod" "read")
  is_Row : isiB cs ks [.ins 0, .ins 1, .ins 2, .ins 3, .ins 4, .ins 5] [.own 0] K = true
  ql_Row_1_2_3_4_5 : EqL K (tcN K cs) [1, 2, 3, 4, 5] (He.ma K (He.ga K "Row") "__eq__")
  is_First : isiB cs ks [.ins 1] [.own 1] K = true
  is_Mode : isiB cs ks [.ins 2] [.own 2] K = true
  is_Turn : isiB cs ks [.ins 3] [.own 3] K = true
  is_Lead : isiB cs ks [.ins 4] [.own 4] K = true
  is_House : isiB cs ks [.ins 5] [.own 5] K = true
  g__law_sort : mg "_law_sort" = some (.ref (He.ga K "_law_sort"))
  d_Mode___init___1 : ∀ H, SqT K H (He.dflAt ("Mode", some "__init__") 1 K) []
  d_Lead___init___0 : ∀ H, SqT K H (He.dflAt ("Lead", some "__init__") 0 K) []
  d_House___init___0 : ∀ H, SqT K H (He.dflAt ("House", some "__init__") 0 K) []
  d_House___init___1 : ∀ H, SqT K H (He.dflAt ("House", some "__init__") 1 K) []
  g_law : mg "law" = some (.ref (He.ga K "law"))
  xc_InvalidRow : XcAll P K XB.value "word" (He.ga K "InvalidRow")
  xc_InvalidText : XcAll P K XB.value "at" (He.ga K "InvalidText")
  d__law_deal : ∃ fd, FunD K "_law_deal" "_law_deal" (defArgs (top 34)) (defBody (top 34)) (defScope (top 34)) (([] : List He.Dv).map (He.Dv.v K)) (([] : List (PySem.Str × He.Dv)).map fun q => (q.1, q.2.v K)) (He.ga K "_law_deal") fd
  d__law_draw : ∃ fd, FunD K "_law_draw" "_law_draw" (defArgs (top 35)) (defBody (top 35)) (defScope (top 35)) (([] : List He.Dv).map (He.Dv.v K)) (([] : List (PySem.Str × He.Dv)).map fun q => (q.1, q.2.v K)) (He.ga K "_law_draw") fd
  d__law_mixed : ∃ fd, FunD K "_law_mixed" "_law_mixed" (defArgs (top 37)) (defBody (top 37)) (defScope (top 37)) (([] : List He.Dv).map (He.Dv.v K)) (([] : List (PySem.Str × He.Dv)).map fun q => (q.1, q.2.v K)) (He.ga K "_law_mixed") fd
  d__law_pool : ∃ fd, FunD K "_law_pool" "_law_pool" (defArgs (top 38)) (defBody (top 38)) (defScope (top 38)) (([] : List He.Dv).map (He.Dv.v K)) (([] : List (PySem.Str × He.Dv)).map fun q => (q.1, q.2.v K)) (He.ga K "_law_pool") fd
  d__law_names : ∃ fd, FunD K "_law_names" "_law_names" (defArgs (top 39)) (defBody (top 39)) (defScope (top 39)) (([] : List He.Dv).map (He.Dv.v K)) (([] : List (PySem.Str × He.Dv)).map fun q => (q.1, q.2.v K)) (He.ga K "_law_names") fd
  d__law_pick : ∃ fd, FunD K "_law_pick" "_law_pick" (defArgs (top 36)) (defBody (top 36)) (defScope (top 36)) (([] : List He.Dv).map (He.Dv.v K)) (([] : List (PySem.Str × He.Dv)).map fun q => (q.1, q.2.v K)) (He.ga K "_law_pick") fd
  d__law_test : ∃ fd, FunD K "_law_test" "_law_test" (defArgs (top 40)) (defBody (top 40)) (defScope (top 40)) (([] : List He.Dv).map (He.Dv.v K)) (([] : List (PySem.Str × He.Dv)).map fun q => (q.1, q.2.v K)) (He.ga K "_law_test") fd
  d__law_few : ∃ fd, FunD K "_law_few" "_law_few" (defArgs (top 42)) (defBody (top 42)) (defScope (top 42)) (([] : List He.Dv).map (He.Dv.v K)) (([] : List (PySem.Str × He.Dv)).map fun q => (q.1, q.2.v K)) (He.ga K "_law_few") fd
  d__law_deed : ∃ fd, FunD K "_law_deed" "_law_deed" (defArgs (top 41)) (defBody (top 41)) (defScope (top 41)) (([] : List He.Dv).map (He.Dv.v K)) (([] : List (PySem.Str × He.Dv)).map fun q => (q.1, q.2.v K)) (He.ga K "_law_deed") fd
  d__law_row : ∃ fd, FunD K "_law_row" "_law_row" (defArgs (top 43)) (defBody (top 43)) (defScope (top 43)) (([] : List He.Dv).map (He.Dv.v K)) (([] : List (PySem.Str × He.Dv)).map fun q => (q.1, q.2.v K)) (He.ga K "_law_row") fd
  d__law_text : ∃ fd, FunD K "_law_text" "_law_text" (defArgs (top 45)) (defBody (top 45)) (defScope (top 45)) (([] : List He.Dv).map (He.Dv.v K)) (([] : List (PySem.Str × He.Dv)).map fun q => (q.1, q.2.v K)) (He.ga K "_law_text") fd
  d_is_name : ∃ fd, FunD K "is_name" "is_name" (defArgs (top 7)) (defBody (top 7)) (defScope (top 7)) (([] : List He.Dv).map (He.Dv.v K)) (([] : List (PySem.Str × He.Dv)).map fun q => (q.1, q.2.v K)) (He.ga K "is_name") fd
  d_First___init__ : ∃ fd, FunD K "__init__" "First.__init__" (defArgs (inClass (top 23) 0)) (defBody (inClass (top 23) 0)) (defScope (inClass (top 23) 0)) (([] : List He.Dv).map (He.Dv.v K)) (([] : List (PySem.Str × He.Dv)).map fun q => (q.1, q.2.v K)) (He.ma K (He.ga K "First") "__init__") fd
  d_is_word : ∃ fd, FunD K "is_word" "is_word" (defArgs (top 18)) (defBody (top 18)) (defScope (top 18)) (([] : List He.Dv).map (He.Dv.v K)) (([] : List (PySem.Str × He.Dv)).map fun q => (q.1, q.2.v K)) (He.ga K "is_word") fd
  d_is_sequence : ∃ fd, FunD K "is_sequence" "is_sequence" (defArgs (top 8)) (defBody (top 8)) (defScope (top 8)) (([] : List He.Dv).map (He.Dv.v K)) (([] : List (PySem.Str × He.Dv)).map fun q => (q.1, q.2.v K)) (He.ga K "is_sequence") fd
  d_are_names : ∃ fd, FunD K "are_names" "are_names" (defArgs (top 9)) (defBody (top 9)) (defScope (top 9)) (([] : List He.Dv).map (He.Dv.v K)) (([] : List (PySem.Str × He.Dv)).map fun q => (q.1, q.2.v K)) (He.ga K "are_names") fd
  d_are_unlike_names : ∃ fd, FunD K "are_unlike_names" "are_unlike_names" (defArgs (top 10)) (defBody (top 10)) (defScope (top 10)) (([] : List He.Dv).map (He.Dv.v K)) (([] : List (PySem.Str × He.Dv)).map fun q => (q.1, q.2.v K)) (He.ga K "are_unlike_names") fd
  d_Mode___init__ : ∃ fd, FunD K "__init__" "Mode.__init__" (defArgs (inClass (top 24) 0)) (defBody (inClass (top 24) 0)) (defScope (inClass (top 24) 0)) (([.non, .adr (He.dflAt ("Mode", some "__init__") 1)] : List He.Dv).map (He.Dv.v K)) (([] : List (PySem.Str × He.Dv)).map fun q => (q.1, q.2.v K)) (He.ma K (He.ga K "Mode") "__init__") fd
  d_Turn___init__ : ∃ fd, FunD K "__init__" "Turn.__init__" (defArgs (inClass (top 25) 0)) (defBody (inClass (top 25) 0)) (defScope (inClass (top 25) 0)) (([] : List He.Dv).map (He.Dv.v K)) (([] : List (PySem.Str × He.Dv)).map fun q => (q.1, q.2.v K)) (He.ma K (He.ga K "Turn") "__init__") fd
  d_Lead___init__ : ∃ fd, FunD K "__init__" "Lead.__init__" (defArgs (inClass (top 26) 0)) (defBody (inClass (top 26) 0)) (defScope (inClass (top 26) 0)) (([.adr (He.dflAt ("Lead", some "__init__") 0)] : List He.Dv).map (He.Dv.v K)) (([] : List (PySem.Str × He.Dv)).map fun q => (q.1, q.2.v K)) (He.ma K (He.ga K "Lead") "__init__") fd
  d_is_phase : ∃ fd, FunD K "is_phase" "is_phase" (defArgs (top 19)) (defBody (top 19)) (defScope (top 19)) (([] : List He.Dv).map (He.Dv.v K)) (([] : List (PySem.Str × He.Dv)).map fun q => (q.1, q.2.v K)) (He.ga K "is_phase") fd
  d_is_test : ∃ fd, FunD K "is_test" "is_test" (defArgs (top 20)) (defBody (top 20)) (defScope (top 20)) (([] : List He.Dv).map (He.Dv.v K)) (([] : List (PySem.Str × He.Dv)).map fun q => (q.1, q.2.v K)) (He.ga K "is_test") fd
  d_is_deed : ∃ fd, FunD K "is_deed" "is_deed" (defArgs (top 21)) (defBody (top 21)) (defScope (top 21)) (([] : List He.Dv).map (He.Dv.v K)) (([] : List (PySem.Str × He.Dv)).map fun q => (q.1, q.2.v K)) (He.ga K "is_deed") fd
  d_House___init__ : ∃ fd, FunD K "__init__" "House.__init__" (defArgs (inClass (top 27) 0)) (defBody (inClass (top 27) 0)) (defScope (inClass (top 27) 0)) (([.adr (He.dflAt ("House", some "__init__") 0), .adr (He.dflAt ("House", some "__init__") 1)] : List He.Dv).map (He.Dv.v K)) (([] : List (PySem.Str × He.Dv)).map fun q => (q.1, q.2.v K)) (He.ma K (He.ga K "House") "__init__") fd
  d__law_made : ∃ fd, FunD K "_law_made" "_law_made" (defArgs (top 44)) (defBody (top 44)) (defScope (top 44)) (([] : List He.Dv).map (He.Dv.v K)) (([] : List (PySem.Str × He.Dv)).map fun q => (q.1, q.2.v K)) (He.ga K "_law_made") fd
  d_joined : ∃ fd, FunD K "joined" "joined" (defArgs (top 29)) (defBody (top 29)) (defScope (top 29)) (([] : List He.Dv).map (He.Dv.v K)) (([] : List (PySem.Str × He.Dv)).map fun q => (q.1, q.2.v K)) (He.ga K "joined") fd
  d_lead_in : ∃ fd, FunD K "lead_in" "lead_in" (defArgs (top 31)) (defBody (top 31)) (defScope (top 31)) (([] : List He.Dv).map (He.Dv.v K)) (([] : List (PySem.Str × He.Dv)).map fun q => (q.1, q.2.v K)) (He.ga K "lead_in") fd
  d_parted : ∃ fd, FunD K "parted" "parted" (defArgs (top 28)) (defBody (top 28)) (defScope (top 28)) (([] : List He.Dv).map (He.Dv.v K)) (([] : List (PySem.Str × He.Dv)).map fun q => (q.1, q.2.v K)) (He.ga K "parted") fd
  d_house_in : ∃ fd, FunD K "house_in" "house_in" (defArgs (top 32)) (defBody (top 32)) (defScope (top 32)) (([] : List He.Dv).map (He.Dv.v K)) (([] : List (PySem.Str × He.Dv)).map fun q => (q.1, q.2.v K)) (He.ga K "house_in") fd
  d_row_in : ∃ fd, FunD K "row_in" "row_in" (defArgs (top 30)) (defBody (top 30)) (defScope (top 30)) (([] : List He.Dv).map (He.Dv.v K)) (([] : List (PySem.Str × He.Dv)).map fun q => (q.1, q.2.v K)) (He.ga K "row_in") fd
  d_House___str__ : ∃ fd, FunD K "__str__" "House.__str__" (defArgs (inClass (top 27) 1)) (defBody (inClass (top 27) 1)) (defScope (inClass (top 27) 1)) (([] : List He.Dv).map (He.Dv.v K)) (([] : List (PySem.Str × He.Dv)).map fun q => (q.1, q.2.v K)) (He.ma K (He.ga K "House") "__str__") fd
  d_Lead___str__ : ∃ fd, FunD K "__str__" "Lead.__str__" (defArgs (inClass (top 26) 1)) (defBody (inClass (top 26) 1)) (defScope (inClass (top 26) 1)) (([] : List He.Dv).map (He.Dv.v K)) (([] : List (PySem.Str × He.Dv)).map fun q => (q.1, q.2.v K)) (He.ma K (He.ga K "Lead") "__str__") fd
  d_Turn___str__ : ∃ fd, FunD K "__str__" "Turn.__str__" (defArgs (inClass (top 25) 1)) (defBody (inClass (top 25) 1)) (defScope (inClass (top 25) 1)) (([] : List He.Dv).map (He.Dv.v K)) (([] : List (PySem.Str × He.Dv)).map fun q => (q.1, q.2.v K)) (He.ma K (He.ga K "Turn") "__str__") fd
  d_Mode___str__ : ∃ fd, FunD K "__str__" "Mode.__str__" (defArgs (inClass (top 24) 1)) (defBody (inClass (top 24) 1)) (defScope (inClass (top 24) 1)) (([] : List He.Dv).map (He.Dv.v K)) (([] : List (PySem.Str × He.Dv)).map fun q => (q.1, q.2.v K)) (He.ma K (He.ga K "Mode") "__str__") fd
  d_First___str__ : ∃ fd, FunD K "__str__" "First.__str__" (defArgs (inClass (top 23) 1)) (defBody (inClass (top 23) 1)) (defScope (inClass (top 23) 1)) (([] : List He.Dv).map (He.Dv.v K)) (([] : List (PySem.Str × He.Dv)).map fun q => (q.1, q.2.v K)) (He.ma K (He.ga K "First") "__str__") fd
  d_Row_read : ∃ fd, FunD K "read" "Row.read" (defArgs (inClass (top 22) 0)) (defBody (inClass (top 22) 0)) (defScope (inClass (top 22) 0)) (([] : List He.Dv).map (He.Dv.v K)) (([] : List (PySem.Str × He.Dv)).map fun q => (q.1, q.2.v K)) (He5.wf K (He.ga K "Row") "classmethod" "read") fd
  d_Row___eq__ : ∃ fd, FunD K "__eq__" "Row.__eq__" (defArgs (inClass (top 22) 2)) (defBody (inClass (top 22) 2)) (defScope (inClass (top 22) 2)) (([] : List He.Dv).map (He.Dv.v K)) (([] : List (PySem.Str × He.Dv)).map fun q => (q.1, q.2.v K)) (He.ma K (He.ga K "Row") "__eq__") fd
  d__law_sort : ∃ fd, FunD K "_law_sort" "_law_sort" (defArgs (top 46)) (defBody (top 46)) (defScope (top 46)) (([] : List He.Dv).map (He.Dv.v K)) (([] : List (PySem.Str × He.Dv)).map fun q => (q.1, q.2.v K)) (He.ga K "_law_sort") fd
  d_law : ∃ fd, FunD K "law" "law" (defArgs (top 47)) (defBody (top 47)) (defScope (top 47)) (([] : List He.Dv).map (He.Dv.v K)) (([] : List (PySem.Str × He.Dv)).map fun q => (q.1, q.2.v K)) (He.ga K "law") fd
section
variable {P : Program} {w : World} {K : PySem.W.Frag} {mg : PySem.Str → Option Value} {base : Heap}
def N__law_deal : List PySem.Str := ["_law_script", "_law_base", "_law_cells", "_law_cell", "_law_mixed_here", "_law_great"]
theorem sc__law_deal : FnScope N__law_deal ["_law_script", "_law_base"] (defScope (top 34)) := ⟨rfl, rfl, rfl, by decide +kernel, rfl, by decide +kernel, by decide +kernel⟩
theorem ok__law_deal (fx : Fx P K mg) {fd : FuncData} (D : FunD K "_law_deal" "_law_deal" (defArgs (top 34)) (defBody (top 34)) (defScope (top 34)) (([] : List He.Dv).map (He.Dv.v K)) (([] : List (PySem.Str × He.Dv)).map fun q => (q.1, q.2.v K)) (He.ga K "_law_deal") fd) : FnG P w K mg base 2 (He.ga K "_law_deal") fd ["_law_script", "_law_base"] (spF (tcN K cs) 2 Lib.F_h_deal) := by
  refine fn_tree D sc__law_deal (by decide) fun cdv A outer s H E r => ?_
  intro X hr hp tk po
  have hK : X.K = (tcN K cs).K := rfl
  have hc : X.calm = true := rfl
  have nd : X.N.Nodup := sc__law_deal.nd
  exact (tss_cons (ts_setLc (i := 2) (own := [("_law_cell", 3)]) (us := [3]) hc nd rfl rfl (npin hp) rfl (npins hp) subl (ti_any hp hK (pt_res (tr_sl hK (pt_var (pv 0)) (to_so (pt_var (pv 1))) (to_so pt_int)))) (blkOk_by (by kernel_rfl)) (fun s H C cl fp => (tg_name (i := 3) (pg_name (i := 3) nd rfl locOf) (npin hp))) (fun s H C cl fp => tts_nil) (fun s H C cl fp => (pt_res (tr_bui (x := "abs") bu_abs rfl fx.f_abs boot_abs (ta_cons (pt_var (pv 3)) ta_nil)))))
    (tss_cons (ts_set (i := 4) nd rfl locOf (npin hp) (pt_res (tr_bin (op_addA hK) pt_int (pt_var (pv 1)))))
    (tss_cons (ts_for (xs := Lib.eb_h_deal_1) po hc (ti_any hp hK (pt_var (pv 2))) (tg_name (i := 3) (pg_name (i := 3) nd rfl locOf) (npin hp)) (tss_one (ts_set (i := 4) nd rfl locOf (npin hp) (pt_bin op_modP (pt_res (tr_buiT (x := "int") bu_int rfl fx.f_int boot_int (ta_cons (pt_res (tr_bin (op_addA hK) (pt_res (tr_bin op_mulA (pt_var (pv 4)) pt_int)) (pt_var (pv 3)))) ta_nil))) pt_int))))
    (tss_cons (ts_setLc (i := 5) (own := [("_law_cell", 3)]) (us := [3]) hc nd rfl rfl (npin hp) rfl (npins hp) subl (ti_any hp hK (pt_var (pv 2))) (blkOk_by (by kernel_rfl)) (fun s H C cl fp => (tg_name (i := 3) (pg_name (i := 3) nd rfl locOf) (npin hp))) (fun s H C cl fp => (tts_one (tt_cmp op_geP (pt_var (pv 3)) (pt_bin op_powP pt_int pt_int) rfl))) (fun s H C cl fp => (pt_var (pv 3))))
    (tss_one (ts_retF (pf_box (fs := [("now", (eCon (.int 0))), ("mixed", (eRes (rBin addA (eVar 4) (eCon (.int 1))))), ("turn", (eCon (.int 0)))]) (pps_cons pe_str (pf_res (tr_rev (pt_var (pv 5)))) (pps_cons pe_str pt_int (pps_cons pe_str (pt_res (tr_bin (op_addA hK) (pt_var (pv 4)) pt_int)) (pps_cons pe_str pt_int pps_nil)))) (by decide +kernel) (by decide))))))))
def N__law_draw : List PySem.Str := ["_law_deal_here", "_law_many", "_law_digit", "_law_first", "_law_second"]
theorem sc__law_draw : FnScope N__law_draw ["_law_deal_here", "_law_many"] (defScope (top 35)) := ⟨rfl, rfl, rfl, by decide +kernel, rfl, by decide +kernel, by decide +kernel⟩
theorem ok__law_draw (fx : Fx P K mg) {fd : FuncData} (D : FunD K "_law_draw" "_law_draw" (defArgs (top 35)) (defBody (top 35)) (defScope (top 35)) (([] : List He.Dv).map (He.Dv.v K)) (([] : List (PySem.Str × He.Dv)).map fun q => (q.1, q.2.v K)) (He.ga K "_law_draw") fd) : FnG P w K mg base 2 (He.ga K "_law_draw") fd ["_law_deal_here", "_law_many"] (spF (tcN K cs) 2 Lib.F_h_draw) := by
  refine fn_tree D sc__law_draw (by decide) fun cdv A outer s H E r => ?_
  intro X hr hp tk po
  have hK : X.K = (tcN K cs).K := rfl
  have hc : X.calm = true := rfl
  have nd : X.N.Nodup := sc__law_draw.nd
  exact (tss_cons (ts_while (xs := Lib.eb_h_draw_1) 1000 po (tt_w (tw_and (tt_cmp (op_eqP hK (u64 hr)) (pt_bget (u1 hr) (pv 0)) pt_int rfl) (tw_and1 (tt_cmp op_gtP (pt_blen (u1 hr) rfl fx.f_len (pv 0)) pt_int rfl)))) (tss_one (ts_bput (u1 hr) (pv 0) (pt_bpop hK (u1 hr) (pv 0)))))
    (tss_cons (ts_if (tt_cmp op_gtP (pt_bget (u1 hr) (pv 0)) pt_int rfl) (tss_cons (ts_set (i := 2) nd rfl locOf (npin hp) (pt_bin op_modP (pt_res (tr_buiT (x := "int") bu_int rfl fx.f_int boot_int (ta_cons (pt_bget (u1 hr) (pv 0)) ta_nil))) (pt_var (pv 1))))
    (tss_cons (ts_bput (u1 hr) (pv 0) (pt_bin op_fdivP (pt_bget (u1 hr) (pv 0)) (pt_var (pv 1))))
    (tss_one (ts_ret hp (pt_var (pv 2)))))) tss_nil)
    (tss_cons (ts_bput (u1 hr) (pv 0) (pt_res (tr_bin (op_addA hK) (pt_bget (u1 hr) (pv 0)) pt_int)))
    (tss_cons (ts_set (i := 3) nd rfl locOf (npin hp) (pt_bin op_modP (pt_res (tr_buiT (x := "int") bu_int rfl fx.f_int boot_int (ta_cons (pt_res (tr_bin (op_addA hK) (pt_res (tr_bin op_mulA (pt_bget (u1 hr) (pv 0)) pt_int)) (pt_res (tr_bin op_mulA (pt_bget (u1 hr) (pv 0)) pt_int)))) ta_nil))) pt_int))
    (tss_cons (ts_set (i := 4) nd rfl locOf (npin hp) (pt_bin op_modP (pt_res (tr_buiT (x := "int") bu_int rfl fx.f_int boot_int (ta_cons (pt_res (tr_bin (op_addA hK) (pt_res (tr_bin op_mulA (pt_var (pv 3)) (pt_var (pv 3)))) (pt_res (tr_bin op_mulA (pt_bget (u1 hr) (pv 0)) pt_int)))) ta_nil))) pt_int))
    (tss_cons (ts_bput (u1 hr) (pv 0) (pt_res (tr_bin (op_addA hK) (pt_bin op_modP (pt_res (tr_buiT (x := "int") bu_int rfl fx.f_int boot_int (ta_cons (pt_res (tr_bin (op_addA hK) (pt_res (tr_bin op_mulA (pt_var (pv 4)) pt_int)) (pt_var (pv 3)))) ta_nil))) pt_int) pt_int)))
    (tss_one (ts_ret hp (pt_bin op_modP (pt_res (tr_buiT (x := "int") bu_int rfl fx.f_int boot_int (ta_cons (pt_res (tr_bin (op_addA hK) (pt_bin op_fdivP (pt_var (pv 4)) pt_int) (pt_var (pv 3)))) ta_nil))) (pt_var (pv 1)))))))))))
def N__law_mixed : List PySem.Str := ["_law_deal_here", "_law_some", "_law_left", "_law_found"]
theorem sc__law_mixed : FnScope N__law_mixed ["_law_deal_here", "_law_some"] (defScope (top 37)) := ⟨rfl, rfl, rfl, by decide +kernel, rfl, by decide +kernel, by decide +kernel⟩
theorem ok__law_mixed (fx : Fx P K mg) {fd : FuncData} (D : FunD K "_law_mixed" "_law_mixed" (defArgs (top 37)) (defBody (top 37)) (defScope (top 37)) (([] : List He.Dv).map (He.Dv.v K)) (([] : List (PySem.Str × He.Dv)).map fun q => (q.1, q.2.v K)) (He.ga K "_law_mixed") fd) : FnG P w K mg base 3 (He.ga K "_law_mixed") fd ["_law_deal_here", "_law_some"] (spF (tcN K cs) 2 Lib.F_h_mixed) := by
  obtain ⟨fd__law_draw, D__law_draw⟩ := fx.d__law_draw
  refine fn_tree D sc__law_mixed (by decide) fun cdv A outer s H E r => ?_
  intro X hr hp tk po
  have hK : X.K = (tcN K cs).K := rfl
  have hc : X.calm = true := rfl
  have nd : X.N.Nodup := sc__law_mixed.nd
  have hr2 : RoomG 2 X.A := hr.mono (by decide)
  exact (tss_cons (ts_par (i := 2) (j := 3) hc nd rfl rfl (by decide) rfl rfl (npin hp) (npin hp) (tb_cons (tr_own (pf_res (tr_buiT (x := "list") (bu_list hK) rfl fx.f_list boot_list (ta_cons (pt_var (pv 1)) ta_nil)))) (tb_cons (tr_own (pf_lst ta_nil)) tb_nil)))
    (tss_cons (ts_while (xs := Lib.eb_h_mixed_1) 1000 po (tt_cmp (op_neP hK (u64 hr)) (pt_var (pv 2)) (pt_lst ta_nil) rfl) (tss_one (ts_expr (pt_mut (T := "list") (id := "list.append") (name := "append") hK PySem.F.plainAttrs_list PySem.F.slot_list_append PySem.F.type_list_append mu_append (pv 3) (ta_cons (pt_mut (T := "list") (id := "list.pop") (name := "pop") hK PySem.F.plainAttrs_list PySem.F.slot_list_pop PySem.F.type_list_pop mu_pop (pv 2) (ta_cons (pt_res (tr_call ((ok__law_draw fx D__law_draw).mono (Nat.le_refl _)) (Fill.all (D__law_draw.bindsN fun _ _ _ _ _ _ us hl => match us, hl with | [_, _], _ => rfl)) hr2 tk rfl fx.g__law_draw D__law_draw.kp (ta_cons (pt_var (pv 0)) (ta_cons (pt_res (tr_bui (x := "len") (bu_len hK) rfl fx.f_len boot_len (ta_cons (pt_var (pv 2)) ta_nil))) ta_nil)))) ta_nil)) ta_nil)))))
    (tss_one (ts_ret hp (pt_var (pv 3))))))
def N__law_pool : List PySem.Str := ["_law_some"]
theorem sc__law_pool : FnScope N__law_pool [] (defScope (top 38)) := ⟨rfl, rfl, rfl, by decide +kernel, rfl, by decide +kernel, by decide +kernel⟩
theorem ok__law_pool (fx : Fx P K mg) {fd : FuncData} (D : FunD K "_law_pool" "_law_pool" (defArgs (top 38)) (defBody (top 38)) (defScope (top 38)) (([] : List He.Dv).map (He.Dv.v K)) (([] : List (PySem.Str × He.Dv)).map fun q => (q.1, q.2.v K)) (He.ga K "_law_pool") fd) : FnG P w K mg base 2 (He.ga K "_law_pool") fd [] (spF (tcN K cs) 0 Lib.F_h_pool) := by
  refine fn_tree D sc__law_pool (by decide) fun cdv A outer s H E r => ?_
  intro X hr hp tk po
  have hK : X.K = (tcN K cs).K := rfl
  have hc : X.calm = true := rfl
  have nd : X.N.Nodup := sc__law_pool.nd
  exact (tss_cons (ts_set (i := 0) nd rfl locOf (npin hp) (pt_lst (ta_cons pt_str (ta_cons pt_str (ta_cons pt_str (ta_cons pt_str (ta_cons pt_str (ta_cons pt_str (ta_cons pt_str (ta_cons pt_str (ta_cons pt_str (ta_cons pt_str ta_nil))))))))))))
    (tss_one (ts_ret hp (pt_res (tr_bin (op_addA hK) (pt_var (pv 0)) (pt_lst (ta_cons pt_str (ta_cons pt_str (ta_cons pt_str (ta_cons pt_str (ta_cons pt_str ta_nil)))))))))))
def N__law_names : List PySem.Str := ["_law_deal_here", "_law_many"]
theorem sc__law_names : FnScope N__law_names ["_law_deal_here", "_law_many"] (defScope (top 39)) := ⟨rfl, rfl, rfl, by decide +kernel, rfl, by decide +kernel, by decide +kernel⟩
theorem ok__law_names (fx : Fx P K mg) {fd : FuncData} (D : FunD K "_law_names" "_law_names" (defArgs (top 39)) (defBody (top 39)) (defScope (top 39)) (([] : List He.Dv).map (He.Dv.v K)) (([] : List (PySem.Str × He.Dv)).map fun q => (q.1, q.2.v K)) (He.ga K "_law_names") fd) : FnG P w K mg base 4 (He.ga K "_law_names") fd ["_law_deal_here", "_law_many"] (spF (tcN K cs) 2 Lib.F_h_names) := by
  obtain ⟨fd__law_mixed, D__law_mixed⟩ := fx.d__law_mixed
  obtain ⟨fd__law_pool, D__law_pool⟩ := fx.d__law_pool
  refine fn_tree D sc__law_names (by decide) fun cdv A outer s H E r => ?_
  intro X hr hp tk po
  have hK : X.K = (tcN K cs).K := rfl
  have hc : X.calm = true := rfl
  have nd : X.N.Nodup := sc__law_names.nd
  have hr2 : RoomG 2 X.A := hr.mono (by decide)
  have hr3 : RoomG 3 X.A := hr.mono (by decide)
  exact (tss_one (ts_ret hp (pt_res (tr_sl hK (pt_res (tr_call ((ok__law_mixed fx D__law_mixed).mono (Nat.le_refl _)) (Fill.all (D__law_mixed.bindsN fun _ _ _ _ _ _ us hl => match us, hl with | [_, _], _ => rfl)) hr3 tk rfl fx.g__law_mixed D__law_mixed.kp (ta_cons (pt_var (pv 0)) (ta_cons (pt_res (tr_call0 ((ok__law_pool fx D__law_pool).mono (Nat.le_refl _)) (Fill.all (D__law_pool.bindsN fun _ _ _ _ _ _ us hl => match us, hl with | [], _ => rfl)) hr2 tk rfl fx.g__law_pool D__law_pool.kp)) ta_nil)))) to_no (to_so (pt_var (pv 1)))))))
def N__law_pick : List PySem.Str := ["_law_deal_here", "_law_some"]
theorem sc__law_pick : FnScope N__law_pick ["_law_deal_here", "_law_some"] (defScope (top 36)) := ⟨rfl, rfl, rfl, by decide +kernel, rfl, by decide +kernel, by decide +kernel⟩
theorem ok__law_pick (fx : Fx P K mg) {fd : FuncData} (D : FunD K "_law_pick" "_law_pick" (defArgs (top 36)) (defBody (top 36)) (defScope (top 36)) (([] : List He.Dv).map (He.Dv.v K)) (([] : List (PySem.Str × He.Dv)).map fun q => (q.1, q.2.v K)) (He.ga K "_law_pick") fd) : FnG P w K mg base 3 (He.ga K "_law_pick") fd ["_law_deal_here", "_law_some"] (spF (tcN K cs) 2 Lib.F_h_pick) := by
  obtain ⟨fd__law_draw, D__law_draw⟩ := fx.d__law_draw
  refine fn_tree D sc__law_pick (by decide) fun cdv A outer s H E r => ?_
  intro X hr hp tk po
  have hK : X.K = (tcN K cs).K := rfl
  have hc : X.calm = true := rfl
  have nd : X.N.Nodup := sc__law_pick.nd
  have hr2 : RoomG 2 X.A := hr.mono (by decide)
  exact (tss_one (ts_ret hp (pt_ix hK (pt_var (pv 1)) (pt_res (tr_call ((ok__law_draw fx D__law_draw).mono (Nat.le_refl _)) (Fill.all (D__law_draw.bindsN fun _ _ _ _ _ _ us hl => match us, hl with | [_, _], _ => rfl)) hr2 tk rfl fx.g__law_draw D__law_draw.kp (ta_cons (pt_var (pv 0)) (ta_cons (pt_res (tr_bui (x := "len") (bu_len hK) rfl fx.f_len boot_len (ta_cons (pt_var (pv 1)) ta_nil))) ta_nil)))) (fun _ _ => rfl))))
def N__law_test : List PySem.Str := ["_law_deal_here", "_law_names_here", "_law_plain"]
theorem sc__law_test : FnScope N__law_test ["_law_deal_here", "_law_names_here"] (defScope (top 40)) := ⟨rfl, rfl, rfl, by decide +kernel, rfl, by decide +kernel, by decide +kernel⟩
theorem ok__law_test (fx : Fx P K mg) {fd : FuncData} (D : FunD K "_law_test" "_law_test" (defArgs (top 40)) (defBody (top 40)) (defScope (top 40)) (([] : List He.Dv).map (He.Dv.v K)) (([] : List (PySem.Str × He.Dv)).map fun q => (q.1, q.2.v K)) (He.ga K "_law_test") fd) : FnG P w K mg base 4 (He.ga K "_law_test") fd ["_law_deal_here", "_law_names_here"] (spF (tcN K cs) 2 Lib.F_h_test) := by
  obtain ⟨fd__law_pick, D__law_pick⟩ := fx.d__law_pick
  refine fn_tree D sc__law_test (by decide) fun cdv A outer s H E r => ?_
  intro X hr hp tk po
  have hK : X.K = (tcN K cs).K := rfl
  have hc : X.calm = true := rfl
  have nd : X.N.Nodup := sc__law_test.nd
  have hr3 : RoomG 3 X.A := hr.mono (by decide)
  exact (tss_cons (ts_set (i := 2) nd rfl locOf (npin hp) (pt_lst (ta_cons (pt_res (tr_bin (op_addA hK) pt_str (pt_res (tr_call ((ok__law_pick fx D__law_pick).mono (Nat.le_refl _)) (Fill.all (D__law_pick.bindsN fun _ _ _ _ _ _ us hl => match us, hl with | [_, _], _ => rfl)) hr3 tk rfl fx.g__law_pick D__law_pick.kp (ta_cons (pt_var (pv 0)) (ta_cons (pt_res (tr_bin (op_addA hK) (pt_var (pv 1)) (pt_lst (ta_cons pt_str ta_nil)))) ta_nil)))))) (ta_cons (pt_res (tr_bin (op_addA hK) pt_str (pt_res (tr_call ((ok__law_pick fx D__law_pick).mono (Nat.le_refl _)) (Fill.all (D__law_pick.bindsN fun _ _ _ _ _ _ us hl => match us, hl with | [_, _], _ => rfl)) hr3 tk rfl fx.g__law_pick D__law_pick.kp (ta_cons (pt_var (pv 0)) (ta_cons (pt_var (pv 1)) ta_nil)))))) (ta_cons pt_str (ta_cons pt_str ta_nil))))))
    (tss_one (ts_ret hp (pt_res (tr_bin (op_addA hK) (pt_res (tr_call ((ok__law_pick fx D__law_pick).mono (Nat.le_refl _)) (Fill.all (D__law_pick.bindsN fun _ _ _ _ _ _ us hl => match us, hl with | [_, _], _ => rfl)) hr3 tk rfl fx.g__law_pick D__law_pick.kp (ta_cons (pt_var (pv 0)) (ta_cons (pt_lst (ta_cons pt_str (ta_cons pt_str ta_nil))) ta_nil)))) (pt_res (tr_call ((ok__law_pick fx D__law_pick).mono (Nat.le_refl _)) (Fill.all (D__law_pick.bindsN fun _ _ _ _ _ _ us hl => match us, hl with | [_, _], _ => rfl)) hr3 tk rfl fx.g__law_pick D__law_pick.kp (ta_cons (pt_var (pv 0)) (ta_cons (pt_var (pv 2)) ta_nil)))))))))
def N__law_few : List PySem.Str := ["_law_deeds", "_law_sends", "_law_at", "_law_deed_here"]
theorem sc__law_few : FnScope N__law_few ["_law_deeds"] (defScope (top 42)) := ⟨rfl, rfl, rfl, by decide +kernel, rfl, by decide +kernel, by decide +kernel⟩
theorem ok__law_few (fx : Fx P K mg) {fd : FuncData} (D : FunD K "_law_few" "_law_few" (defArgs (top 42)) (defBody (top 42)) (defScope (top 42)) (([] : List He.Dv).map (He.Dv.v K)) (([] : List (PySem.Str × He.Dv)).map fun q => (q.1, q.2.v K)) (He.ga K "_law_few") fd) : FnG P w K mg base 2 (He.ga K "_law_few") fd ["_law_deeds"] (spF (tcN K cs) 1 Lib.F_h_few) := by
  refine fn_tree D sc__law_few (by decide) fun cdv A outer s H E r => ?_
  intro X hr hp tk po
  have hK : X.K = (tcN K cs).K := rfl
  have hc : X.calm = true := rfl
  have nd : X.N.Nodup := sc__law_few.nd
  exact (tss_cons (ts_set (i := 1) nd rfl locOf (npin hp) (pt_res (tr_sl hK (pt_of (pf_lc (own := [("_law_at", 2), ("_law_deed_here", 3)]) (us := [2, 3]) hc nd (npins hp) subl (ti_enumS hK rfl fx.f_enumerate (ta_cons (pt_var (pv 0)) ta_nil)) (blkOk_by (by kernel_rfl)) (fun s H C cl fp => (tg_tupL (n := 2) (by exact hK) (by exact hc) (by exact (tgs_cons (us := [2]) (ws := [3]) (tg_name (i := 2) (pg_name (i := 2) nd rfl locOf) (npin hp)) (tgs_cons (us := [3]) (ws := []) (tg_name (i := 3) (pg_name (i := 3) nd rfl locOf) (npin hp)) tgs_nil))))) (fun s H C cl fp => (tts_one (tt_cmp (op_eqP hK (u64 hr)) (pt_res (tr_sl hK (pt_var (pv 3)) to_no (to_so pt_int))) pt_str rfl))) (fun s H C cl fp => (pt_var (pv 2))))) (to_so pt_int) to_no)))
    (tss_one (ts_retF (pf_lc (own := [("_law_at", 2), ("_law_deed_here", 3)]) (us := [2, 3]) hc nd (npins hp) subl (ti_enumS hK rfl fx.f_enumerate (ta_cons (pt_var (pv 0)) ta_nil)) (blkOk_by (by kernel_rfl)) (fun s H C cl fp => (tg_tupL (n := 2) (by exact hK) (by exact hc) (by exact (tgs_cons (us := [2]) (ws := [3]) (tg_name (i := 2) (pg_name (i := 2) nd rfl locOf) (npin hp)) (tgs_cons (us := [3]) (ws := []) (tg_name (i := 3) (pg_name (i := 3) nd rfl locOf) (npin hp)) tgs_nil))))) (fun s H C cl fp => (tts_one (tt_cmp (op_ninP hK (u65 hr)) (pt_var (pv 2)) (pt_var (pv 1)) rfl))) (fun s H C cl fp => (pt_var (pv 3)))))))
def N__law_deed : List PySem.Str := ["_law_deal_here", "_law_names_here", "_law_some"]
theorem sc__law_deed : FnScope N__law_deed ["_law_deal_here", "_law_names_here"] (defScope (top 41)) := ⟨rfl, rfl, rfl, by decide +kernel, rfl, by decide +kernel, by decide +kernel⟩
theorem ok__law_deed (fx : Fx P K mg) {fd : FuncData} (D : FunD K "_law_deed" "_law_deed" (defArgs (top 41)) (defBody (top 41)) (defScope (top 41)) (([] : List He.Dv).map (He.Dv.v K)) (([] : List (PySem.Str × He.Dv)).map fun q => (q.1, q.2.v K)) (He.ga K "_law_deed") fd) : FnG P w K mg base 4 (He.ga K "_law_deed") fd ["_law_deal_here", "_law_names_here"] (spF (tcN K cs) 2 Lib.F_h_deed) := by
  obtain ⟨fd__law_pick, D__law_pick⟩ := fx.d__law_pick
  refine fn_tree D sc__law_deed (by decide) fun cdv A outer s H E r => ?_
  intro X hr hp tk po
  have hK : X.K = (tcN K cs).K := rfl
  have hc : X.calm = true := rfl
  have nd : X.N.Nodup := sc__law_deed.nd
  have hr3 : RoomG 3 X.A := hr.mono (by decide)
  exact (tss_cons (ts_set (i := 2) nd rfl locOf (npin hp) (pt_lst (ta_cons (pt_res (tr_bin (op_addA hK) pt_str (pt_res (tr_call ((ok__law_pick fx D__law_pick).mono (Nat.le_refl _)) (Fill.all (D__law_pick.bindsN fun _ _ _ _ _ _ us hl => match us, hl with | [_, _], _ => rfl)) hr3 tk rfl fx.g__law_pick D__law_pick.kp (ta_cons (pt_var (pv 0)) (ta_cons (pt_res (tr_bin (op_addA hK) (pt_var (pv 1)) (pt_lst (ta_cons pt_str ta_nil)))) ta_nil)))))) ta_nil)))
    (tss_cons (ts_set (i := 2) nd rfl locOf (npin hp) (pt_res (tr_bin (op_addA hK) (pt_var (pv 2)) (pt_lst (ta_cons (pt_res (tr_bin (op_addA hK) pt_str (pt_res (tr_call ((ok__law_pick fx D__law_pick).mono (Nat.le_refl _)) (Fill.all (D__law_pick.bindsN fun _ _ _ _ _ _ us hl => match us, hl with | [_, _], _ => rfl)) hr3 tk rfl fx.g__law_pick D__law_pick.kp (ta_cons (pt_var (pv 0)) (ta_cons (pt_var (pv 1)) ta_nil)))))) (ta_cons pt_str (ta_cons pt_str (ta_cons pt_str (ta_cons pt_str ta_nil)))))))))
    (tss_one (ts_ret hp (pt_res (tr_call ((ok__law_pick fx D__law_pick).mono (Nat.le_refl _)) (Fill.all (D__law_pick.bindsN fun _ _ _ _ _ _ us hl => match us, hl with | [_, _], _ => rfl)) hr3 tk rfl fx.g__law_pick D__law_pick.kp (ta_cons (pt_var (pv 0)) (ta_cons (pt_res (tr_bin (op_addA hK) (pt_var (pv 2)) (pt_lst (ta_cons (pt_res (tr_bin (op_addA hK) pt_str (pt_res (tr_call ((ok__law_pick fx D__law_pick).mono (Nat.le_refl _)) (Fill.all (D__law_pick.bindsN fun _ _ _ _ _ _ us hl => match us, hl with | [_, _], _ => rfl)) hr3 tk rfl fx.g__law_pick D__law_pick.kp (ta_cons (pt_var (pv 0)) (ta_cons (pt_var (pv 1)) ta_nil)))))) (ta_cons (pt_res (tr_bin (op_addA hK) pt_str (pt_res (tr_call ((ok__law_pick fx D__law_pick).mono (Nat.le_refl _)) (Fill.all (D__law_pick.bindsN fun _ _ _ _ _ _ us hl => match us, hl with | [_, _], _ => rfl)) hr3 tk rfl fx.g__law_pick D__law_pick.kp (ta_cons (pt_var (pv 0)) (ta_cons (pt_var (pv 1)) ta_nil)))))) ta_nil))))) ta_nil))))))))
def N__law_row : List PySem.Str := ["_law_deal_here", "_law_names_here", "_law_form", "_law_promise", "_law_sort_here", "_law_mode", "_law_place", "_law_sends", "_law_k", "_law_event", "_law_tests"]
theorem sc__law_row : FnScope N__law_row ["_law_deal_here"] (defScope (top 43)) := ⟨rfl, rfl, rfl, by decide +kernel, rfl, by decide +kernel, by decide +kernel⟩
theorem ok__law_row (fx : Fx P K mg) {fd : FuncData} (D : FunD K "_law_row" "_law_row" (defArgs (top 43)) (defBody (top 43)) (defScope (top 43)) (([] : List He.Dv).map (He.Dv.v K)) (([] : List (PySem.Str × He.Dv)).map fun q => (q.1, q.2.v K)) (He.ga K "_law_row") fd) : FnG P w K mg base 5 (He.ga K "_law_row") fd ["_law_deal_here"] (spF (tcN K cs) 1 Lib.F_h_row) := by
  obtain ⟨fd__law_names, D__law_names⟩ := fx.d__law_names
  obtain ⟨fd__law_draw, D__law_draw⟩ := fx.d__law_draw
  obtain ⟨fd__law_pick, D__law_pick⟩ := fx.d__law_pick
  obtain ⟨fd__law_test, D__law_test⟩ := fx.d__law_test
  obtain ⟨fd__law_few, D__law_few⟩ := fx.d__law_few
  obtain ⟨fd__law_deed, D__law_deed⟩ := fx.d__law_deed
  refine fn_tree D sc__law_row (by decide) fun cdv A outer s H E r => ?_
  intro X hr hp tk po
  have hK : X.K = (tcN K cs).K := rfl
  have hc : X.calm = true := rfl
  have nd : X.N.Nodup := sc__law_row.nd
  have hr2 : RoomG 2 X.A := hr.mono (by decide)
  have hr3 : RoomG 3 X.A := hr.mono (by decide)
  have hr4 : RoomG 4 X.A := hr.mono (by decide)
  exact (tss_cons (ts_asg (pt_tup (ta_cons (pt_res (tr_call ((ok__law_names fx D__law_names).mono (Nat.le_refl _)) (Fill.all (D__law_names.bindsN fun _ _ _ _ _ _ us hl => match us, hl with | [_, _], _ => rfl)) hr4 tk rfl fx.g__law_names D__law_names.kp (ta_cons (pt_var (pv 0)) (ta_cons pt_int ta_nil)))) (ta_cons (pt_res (tr_call ((ok__law_draw fx D__law_draw).mono (Nat.le_refl _)) (Fill.all (D__law_draw.bindsN fun _ _ _ _ _ _ us hl => match us, hl with | [_, _], _ => rfl)) hr2 tk rfl fx.g__law_draw D__law_draw.kp (ta_cons (pt_var (pv 0)) (ta_cons pt_int ta_nil)))) ta_nil))) (tg_tupL (n := 2) hK hc (tgs_cons (tg_name (i := 1) (pg_name (i := 1) nd rfl locOf) (npin hp)) (tgs_cons (tg_name (i := 2) (pg_name (i := 2) nd rfl locOf) (npin hp)) tgs_nil))))
    (tss_cons (ts_if (tt_cmp (op_eqP hK (u64 hr)) (pt_var (pv 2)) pt_int rfl) (tss_one (ts_ret hp (pt_tup (ta_cons pt_str (ta_cons (pt_ix hK (pt_var (pv 1)) pt_int (fun _ _ => rfl)) ta_nil))))) tss_nil)
    (tss_cons (ts_if (tt_cmp (op_eqP hK (u64 hr)) (pt_var (pv 2)) pt_int rfl) (tss_cons (ts_set (i := 3) nd rfl locOf (npin hp) (pt_res (tr_call ((ok__law_pick fx D__law_pick).mono (Nat.le_refl _)) (Fill.all (D__law_pick.bindsN fun _ _ _ _ _ _ us hl => match us, hl with | [_, _], _ => rfl)) hr3 tk rfl fx.g__law_pick D__law_pick.kp (ta_cons (pt_var (pv 0)) (ta_cons (pt_lst (ta_cons pt_non (ta_cons pt_str (ta_cons pt_str ta_nil)))) ta_nil)))))
    (tss_one (ts_ret hp (pt_tup (ta_cons pt_str (ta_cons (pt_ix hK (pt_var (pv 1)) pt_int (fun _ _ => rfl)) (ta_cons (pt_var (pv 3)) (ta_cons (pt_if (tt_cmp op_isNP (pt_var (pv 3)) pt_non rfl) (pt_lst ta_nil) (pt_res (tr_sl hK (pt_var (pv 1)) (to_so pt_int) (to_so (pt_res (tr_bin (op_addA hK) pt_int (pt_res (tr_call ((ok__law_draw fx D__law_draw).mono (Nat.le_refl _)) (Fill.all (D__law_draw.bindsN fun _ _ _ _ _ _ us hl => match us, hl with | [_, _], _ => rfl)) hr2 tk rfl fx.g__law_draw D__law_draw.kp (ta_cons (pt_var (pv 0)) (ta_cons pt_int ta_nil)))))))))) ta_nil)))))))) tss_nil)
    (tss_cons (ts_if (tt_cmp (op_eqP hK (u64 hr)) (pt_var (pv 2)) pt_int rfl) (tss_cons (ts_set (i := 4) nd rfl locOf (npin hp) (pt_res (tr_call ((ok__law_pick fx D__law_pick).mono (Nat.le_refl _)) (Fill.all (D__law_pick.bindsN fun _ _ _ _ _ _ us hl => match us, hl with | [_, _], _ => rfl)) hr3 tk rfl fx.g__law_pick D__law_pick.kp (ta_cons (pt_var (pv 0)) (ta_cons (pt_lst (ta_cons pt_str (ta_cons pt_str (ta_cons pt_str ta_nil)))) ta_nil)))))
    (tss_one (ts_ret hp (pt_tup (ta_cons pt_str (ta_cons (pt_ix hK (pt_var (pv 1)) pt_int (fun _ _ => rfl)) (ta_cons (pt_var (pv 4)) (ta_cons (pt_if (tt_cmp (op_eqP hK (u64 hr)) (pt_var (pv 4)) pt_str rfl) (pt_lst ta_nil) (pt_res (tr_sl hK (pt_var (pv 1)) (to_so pt_int) (to_so (pt_res (tr_bin (op_addA hK) pt_int (pt_res (tr_call ((ok__law_draw fx D__law_draw).mono (Nat.le_refl _)) (Fill.all (D__law_draw.bindsN fun _ _ _ _ _ _ us hl => match us, hl with | [_, _], _ => rfl)) hr2 tk rfl fx.g__law_draw D__law_draw.kp (ta_cons (pt_var (pv 0)) (ta_cons pt_int ta_nil)))))))))) (ta_cons (pt_ix hK (pt_var (pv 1)) pt_int (fun _ _ => rfl)) ta_nil))))))))) tss_nil)
    (tss_cons (ts_if (tt_cmp (op_eqP hK (u64 hr)) (pt_var (pv 2)) pt_int rfl) (tss_cons (ts_par (i := 5) (j := 6) hc nd rfl rfl (by decide) rfl rfl (npin hp) (npin hp) (tb_cons (tr_tree (pt_res (tr_call ((ok__law_pick fx D__law_pick).mono (Nat.le_refl _)) (Fill.all (D__law_pick.bindsN fun _ _ _ _ _ _ us hl => match us, hl with | [_, _], _ => rfl)) hr3 tk rfl fx.g__law_pick D__law_pick.kp (ta_cons (pt_var (pv 0)) (ta_cons (pt_lst (ta_cons (pt_ix hK (pt_var (pv 1)) pt_int (fun _ _ => rfl)) (ta_cons pt_str ta_nil))) ta_nil))))) (tb_cons (tr_tree (pt_res (tr_call ((ok__law_pick fx D__law_pick).mono (Nat.le_refl _)) (Fill.all (D__law_pick.bindsN fun _ _ _ _ _ _ us hl => match us, hl with | [_, _], _ => rfl)) hr3 tk rfl fx.g__law_pick D__law_pick.kp (ta_cons (pt_var (pv 0)) (ta_cons (pt_lst (ta_cons (pt_ix hK (pt_var (pv 1)) pt_int (fun _ _ => rfl)) (ta_cons pt_str ta_nil))) ta_nil))))) tb_nil)))
    (tss_cons (ts_setLc (i := 7) (own := [("_law_k", 8)]) (us := [8]) hc nd rfl rfl (npin hp) rfl (npins hp) subl (ti_range1 rfl fx.f_range (ta_cons (pt_res (tr_call ((ok__law_draw fx D__law_draw).mono (Nat.le_refl _)) (Fill.all (D__law_draw.bindsN fun _ _ _ _ _ _ us hl => match us, hl with | [_, _], _ => rfl)) hr2 tk rfl fx.g__law_draw D__law_draw.kp (ta_cons (pt_var (pv 0)) (ta_cons pt_int ta_nil)))) ta_nil)) (blkOk_by (by kernel_rfl)) (fun s H C cl fp => (tg_name (i := 8) (pg_name (i := 8) nd rfl locOf) (npin hp))) (fun s H C cl fp => tts_nil) (fun s H C cl fp => (pt_res (tr_call ((ok__law_pick fx D__law_pick).mono (Nat.le_refl _)) (Fill.all (D__law_pick.bindsN fun _ _ _ _ _ _ us hl => match us, hl with | [_, _], _ => rfl)) hr3 takesW0 rfl fx.g__law_pick D__law_pick.kp (ta_cons (pt_var (pv 0)) (ta_cons (pt_var (pv 1)) ta_nil))))))
    (tss_one (ts_ret hp (pt_tup (ta_cons pt_str (ta_cons (pt_var (pv 5)) (ta_cons (pt_var (pv 6)) (ta_cons (pt_res (tr_call ((ok__law_pick fx D__law_pick).mono (Nat.le_refl _)) (Fill.all (D__law_pick.bindsN fun _ _ _ _ _ _ us hl => match us, hl with | [_, _], _ => rfl)) hr3 tk rfl fx.g__law_pick D__law_pick.kp (ta_cons (pt_var (pv 0)) (ta_cons (pt_lst (ta_cons (pt_ix hK (pt_var (pv 1)) pt_int (fun _ _ => rfl)) (ta_cons pt_str ta_nil))) ta_nil)))) (ta_cons (pt_res (tr_call ((ok__law_pick fx D__law_pick).mono (Nat.le_refl _)) (Fill.all (D__law_pick.bindsN fun _ _ _ _ _ _ us hl => match us, hl with | [_, _], _ => rfl)) hr3 tk rfl fx.g__law_pick D__law_pick.kp (ta_cons (pt_var (pv 0)) (ta_cons (pt_lst (ta_cons (pt_ix hK (pt_var (pv 1)) pt_int (fun _ _ => rfl)) (ta_cons pt_str ta_nil))) ta_nil)))) (ta_cons (pt_var (pv 7)) ta_nil))))))))))) tss_nil)
    (tss_cons (ts_set (i := 9) nd rfl locOf (npin hp) (pt_res (tr_call ((ok__law_pick fx D__law_pick).mono (Nat.le_refl _)) (Fill.all (D__law_pick.bindsN fun _ _ _ _ _ _ us hl => match us, hl with | [_, _], _ => rfl)) hr3 tk rfl fx.g__law_pick D__law_pick.kp (ta_cons (pt_var (pv 0)) (ta_cons (pt_lst (ta_cons (pt_ix hK (pt_var (pv 1)) pt_int (fun _ _ => rfl)) (ta_cons (pt_ix hK (pt_var (pv 1)) pt_int (fun _ _ => rfl)) (ta_cons pt_str (ta_cons pt_str (ta_cons pt_str (ta_cons pt_str ta_nil))))))) ta_nil)))))
    (tss_cons (ts_setLc (i := 10) (own := [("_law_k", 8)]) (us := [8]) hc nd rfl rfl (npin hp) rfl (npins hp) subl (ti_range1 rfl fx.f_range (ta_cons (pt_res (tr_call ((ok__law_draw fx D__law_draw).mono (Nat.le_refl _)) (Fill.all (D__law_draw.bindsN fun _ _ _ _ _ _ us hl => match us, hl with | [_, _], _ => rfl)) hr2 tk rfl fx.g__law_draw D__law_draw.kp (ta_cons (pt_var (pv 0)) (ta_cons pt_int ta_nil)))) ta_nil)) (blkOk_by (by kernel_rfl)) (fun s H C cl fp => (tg_name (i := 8) (pg_name (i := 8) nd rfl locOf) (npin hp))) (fun s H C cl fp => tts_nil) (fun s H C cl fp => (pt_res (tr_call ((ok__law_test fx D__law_test).mono (Nat.le_refl _)) (Fill.all (D__law_test.bindsN fun _ _ _ _ _ _ us hl => match us, hl with | [_, _], _ => rfl)) hr4 takesW0 rfl fx.g__law_test D__law_test.kp (ta_cons (pt_var (pv 0)) (ta_cons (pt_var (pv 1)) ta_nil))))))
    (tss_one (ts_ret hp (pt_tup (ta_cons pt_str (ta_cons (pt_var (pv 9)) (ta_cons (pt_var (pv 10)) (ta_cons (pt_res (tr_call ((ok__law_few fx D__law_few).mono (Nat.le_refl _)) (Fill.all (D__law_few.bindsN fun _ _ _ _ _ _ us hl => match us, hl with | [_], _ => rfl)) hr2 tk rfl fx.g__law_few D__law_few.kp (ta_cons (pt_of (pf_lc (own := [("_law_k", 8)]) (us := [8]) hc nd (npins hp) subl (ti_range1 rfl fx.f_range (ta_cons (pt_res (tr_call ((ok__law_draw fx D__law_draw).mono (Nat.le_refl _)) (Fill.all (D__law_draw.bindsN fun _ _ _ _ _ _ us hl => match us, hl with | [_, _], _ => rfl)) hr2 tk rfl fx.g__law_draw D__law_draw.kp (ta_cons (pt_var (pv 0)) (ta_cons pt_int ta_nil)))) ta_nil)) (blkOk_by (by kernel_rfl)) (fun s H C cl fp => (tg_name (i := 8) (pg_name (i := 8) nd rfl locOf) (npin hp))) (fun s H C cl fp => tts_nil) (fun s H C cl fp => (pt_res (tr_call ((ok__law_deed fx D__law_deed).mono (Nat.le_refl _)) (Fill.all (D__law_deed.bindsN fun _ _ _ _ _ _ us hl => match us, hl with | [_, _], _ => rfl)) hr4 takesW0 rfl fx.g__law_deed D__law_deed.kp (ta_cons (pt_var (pv 0)) (ta_cons (pt_var (pv 1)) ta_nil))))))) ta_nil))) ta_nil))))))))))))))
def N__law_text : List PySem.Str := ["_law_row_here", "_law_head", "_law_text_here"]
theorem sc__law_text : FnScope N__law_text ["_law_row_here"] (defScope (top 45)) := ⟨rfl, rfl, rfl, by decide +kernel, rfl, by decide +kernel, by decide +kernel⟩
theorem ok__law_text (fx : Fx P K mg) {fd : FuncData} (D : FunD K "_law_text" "_law_text" (defArgs (top 45)) (defBody (top 45)) (defScope (top 45)) (([] : List He.Dv).map (He.Dv.v K)) (([] : List (PySem.Str × He.Dv)).map fun q => (q.1, q.2.v K)) (He.ga K "_law_text") fd) : FnG P w K mg base 2 (He.ga K "_law_text") fd ["_law_row_here"] (spF (tcN K cs) 1 Lib.F_h_text) := by
  refine fn_tree D sc__law_text (by decide) fun cdv A outer s H E r => ?_
  intro X hr hp tk po
  have hK : X.K = (tcN K cs).K := rfl
  have hc : X.calm = true := rfl
  have nd : X.N.Nodup := sc__law_text.nd
  exact (tss_cons (ts_if (tt_cmp (op_eqP hK (u64 hr)) (pt_ix hK (pt_var (pv 0)) pt_int (fun _ _ => rfl)) pt_str rfl) (tss_one (ts_ret hp (pt_res (tr_bin (op_addA hK) pt_str (pt_ix hK (pt_var (pv 0)) pt_int (fun _ _ => rfl)))))) tss_nil)
    (tss_cons (ts_if (tt_cmp (op_eqP hK (u64 hr)) (pt_ix hK (pt_var (pv 0)) pt_int (fun _ _ => rfl)) pt_str rfl) (tss_one (ts_ret hp (pt_res (tr_met (T := "str") (id := "str.join") (name := "join") hK PySem.F.plainAttrs_str PySem.F.slot_str_join PySem.F.type_str_join (mt_joinM hK) pt_str (ta_cons (pt_res (tr_bin (op_addA hK) (pt_lst (ta_cons pt_str (ta_cons (pt_ix hK (pt_var (pv 0)) pt_int (fun _ _ => rfl)) ta_nil))) (pt_if (tt_cmp op_isNP (pt_ix hK (pt_var (pv 0)) pt_int (fun _ _ => rfl)) pt_non rfl) (pt_lst ta_nil) (pt_res (tr_bin (op_addA hK) (pt_lst (ta_cons (pt_ix hK (pt_var (pv 0)) pt_int (fun _ _ => rfl)) ta_nil)) (pt_res (tr_buiT (x := "list") (bu_list hK) rfl fx.f_list boot_list (ta_cons (pt_ix hK (pt_var (pv 0)) pt_int (fun _ _ => rfl)) ta_nil)))))))) ta_nil))))) tss_nil)
    (tss_cons (ts_if (tt_cmp (op_eqP hK (u64 hr)) (pt_ix hK (pt_var (pv 0)) pt_int (fun _ _ => rfl)) pt_str rfl) (tss_one (ts_ret hp (pt_res (tr_met (T := "str") (id := "str.join") (name := "join") hK PySem.F.plainAttrs_str PySem.F.slot_str_join PySem.F.type_str_join (mt_joinM hK) pt_str (ta_cons (pt_res (tr_bin (op_addA hK) (pt_res (tr_bin (op_addA hK) (pt_lst (ta_cons pt_str (ta_cons (pt_ix hK (pt_var (pv 0)) pt_int (fun _ _ => rfl)) (ta_cons (pt_ix hK (pt_var (pv 0)) pt_int (fun _ _ => rfl)) ta_nil)))) (pt_res (tr_buiT (x := "list") (bu_list hK) rfl fx.f_list boot_list (ta_cons (pt_ix hK (pt_var (pv 0)) pt_int (fun _ _ => rfl)) ta_nil))))) (pt_lst (ta_cons pt_str (ta_cons (pt_ix hK (pt_var (pv 0)) pt_int (fun _ _ => rfl)) ta_nil))))) ta_nil))))) tss_nil)
    (tss_cons (ts_if (tt_cmp (op_eqP hK (u64 hr)) (pt_ix hK (pt_var (pv 0)) pt_int (fun _ _ => rfl)) pt_str rfl) (tss_cons (ts_set (i := 1) nd rfl locOf (npin hp) (pt_res (tr_met (T := "str") (id := "str.join") (name := "join") hK PySem.F.plainAttrs_str PySem.F.slot_str_join PySem.F.type_str_join (mt_joinM hK) pt_str (ta_cons (pt_res (tr_bin (op_addA hK) (pt_res (tr_buiT (x := "list") (bu_list hK) rfl fx.f_list boot_list (ta_cons (pt_res (tr_sl hK (pt_var (pv 0)) to_no (to_so pt_int))) ta_nil))) (pt_lst (ta_cons pt_str (ta_cons (pt_ix hK (pt_var (pv 0)) pt_int (fun _ _ => rfl)) ta_nil))))) ta_nil))))
    (tss_one (ts_ret hp (pt_if (tt_cmp (op_eqP hK (u64 hr)) (pt_res (tr_buiT (x := "list") (bu_list hK) rfl fx.f_list boot_list (ta_cons (pt_ix hK (pt_var (pv 0)) pt_int (fun _ _ => rfl)) ta_nil))) (pt_lst ta_nil) rfl) (pt_var (pv 1)) (pt_res (tr_bin (op_addA hK) (pt_res (tr_bin (op_addA hK) (pt_var (pv 1)) pt_str)) (pt_res (tr_met (T := "str") (id := "str.join") (name := "join") hK PySem.F.plainAttrs_str PySem.F.slot_str_join PySem.F.type_str_join (mt_joinM hK) pt_str (ta_cons (pt_ix hK (pt_var (pv 0)) pt_int (fun _ _ => rfl)) ta_nil))))))))) tss_nil)
    (tss_cons (ts_set (i := 2) nd rfl locOf (npin hp) (pt_res (tr_bin (op_addA hK) pt_str (pt_ix hK (pt_var (pv 0)) pt_int (fun _ _ => rfl)))))
    (tss_cons (ts_set (i := 2) nd rfl locOf (npin hp) (pt_if (tt_cmp (op_eqP hK (u64 hr)) (pt_res (tr_buiT (x := "list") (bu_list hK) rfl fx.f_list boot_list (ta_cons (pt_ix hK (pt_var (pv 0)) pt_int (fun _ _ => rfl)) ta_nil))) (pt_lst ta_nil) rfl) (pt_var (pv 2)) (pt_res (tr_bin (op_addA hK) (pt_res (tr_bin (op_addA hK) (pt_var (pv 2)) pt_str)) (pt_res (tr_met (T := "str") (id := "str.join") (name := "join") hK PySem.F.plainAttrs_str PySem.F.slot_str_join PySem.F.type_str_join (mt_joinM hK) pt_str (ta_cons (pt_ix hK (pt_var (pv 0)) pt_int (fun _ _ => rfl)) ta_nil)))))))
    (tss_one (ts_ret hp (pt_if (tt_cmp (op_eqP hK (u64 hr)) (pt_res (tr_buiT (x := "list") (bu_list hK) rfl fx.f_list boot_list (ta_cons (pt_ix hK (pt_var (pv 0)) pt_int (fun _ _ => rfl)) ta_nil))) (pt_lst ta_nil) rfl) (pt_var (pv 2)) (pt_res (tr_bin (op_addA hK) (pt_res (tr_bin (op_addA hK) (pt_var (pv 2)) pt_str)) (pt_res (tr_met (T := "str") (id := "str.join") (name := "join") hK PySem.F.plainAttrs_str PySem.F.slot_str_join PySem.F.type_str_join (mt_joinM hK) pt_str (ta_cons (pt_ix hK (pt_var (pv 0)) pt_int (fun _ _ => rfl)) ta_nil))))))))))))))
def N_is_name : List PySem.Str := ["value", "sign"]
theorem sc_is_name : FnScope N_is_name ["value"] (defScope (top 7)) := ⟨rfl, rfl, rfl, by decide +kernel, rfl, by decide +kernel, by decide +kernel⟩
theorem ok_is_name (fx : Fx P K mg) {fd : FuncData} (D : FunD K "is_name" "is_name" (defArgs (top 7)) (defBody (top 7)) (defScope (top 7)) (([] : List He.Dv).map (He.Dv.v K)) (([] : List (PySem.Str × He.Dv)).map fun q => (q.1, q.2.v K)) (He.ga K "is_name") fd) : FnG P w K mg base 2 (He.ga K "is_name") fd ["value"] (spF (tcN K cs) 1 (Lib.F_is_name ks)) := by
  refine fn_tree D sc_is_name (by decide) fun cdv A outer s H E r => ?_
  intro X hr hp tk po
  have hK : X.K = (tcN K cs).K := rfl
  have hc : X.calm = true := rfl
  have nd : X.N.Nodup := sc_is_name.nd
  exact (tss_cons (ts_if (tt_w (tw_or (tt_not (tt_truth hK (pt_isi hK (AllP.all (.cons fx.q_Row (.cons fx.q_First (.cons fx.q_Mode (.cons fx.q_Turn (.cons fx.q_Lead (.cons fx.q_House .nil))))))) (Tgt.cls (tcN K cs) (.ty "str")) (fun d b h1 h2 => kitOne_of (isiB_ok fx.is_str d b h1 h2)) rfl fx.f_isinstance (pt_var (pv 0)) (pe_bltT (x := "str") (T := "str") (by rfl) fx.f_str boot_str)))) (tw_or (tt_not (tt_chain op_leP op_leP pt_int (pt_res (tr_bui (x := "len") (bu_len hK) rfl fx.f_len boot_len (ta_cons (pt_var (pv 0)) ta_nil))) pt_int)) (tw_or1 (tt_cmp (op_inP hK (u65 hr)) (pt_var (pv 0)) (pt_gref rfl fx.g_BARRED (krep_tupS fx.t_BARRED (strsG (by decide +kernel)))) rfl))))) (tss_one (ts_ret hp pt_bl)) tss_nil)
    (tss_one (ts_ret hp (pt_res (tr_bui (x := "all") (bu_all hc) rfl fx.f_all boot_all (ta_cons (pt_of (pf_lc (own := [("sign", 1)]) (us := [1]) hc nd (npins hp) subl (ti_any hp hK (pt_var (pv 0))) (blkOk_by (by kernel_rfl)) (fun s H C cl fp => (tg_name (i := 1) (pg_name (i := 1) nd rfl locOf) (npin hp))) (fun s H C cl fp => tts_nil) (fun s H C cl fp => (pt_cmp (op_inP hK (u65 hr)) (pt_var (pv 1)) (pt_gstr rfl fx.s_SMALL (strG_by (by decide +kernel))) rfl)))) ta_nil))))))
def N_First___init__ : List PySem.Str := ["self", "place"]
theorem sc_First___init__ : FnScope N_First___init__ ["self", "place"] (defScope (inClass (top 23) 0)) := ⟨rfl, rfl, rfl, by decide +kernel, rfl, by decide +kernel, by decide +kernel⟩
theorem ok_First___init__ (fx : Fx P K mg) {fd : FuncData} (D : FunD K "__init__" "First.__init__" (defArgs (inClass (top 23) 0)) (defBody (inClass (top 23) 0)) (defScope (inClass (top 23) 0)) (([] : List He.Dv).map (He.Dv.v K)) (([] : List (PySem.Str × He.Dv)).map fun q => (q.1, q.2.v K)) (He.ma K (He.ga K "First") "__init__") fd) : FnG P w K mg base 3 (He.ma K (He.ga K "First") "__init__") fd ["self", "place"] (spF (tcN K cs) 2 (Lib.F_First___init__ ks)) := by
  obtain ⟨fd_is_name, D_is_name⟩ := fx.d_is_name
  obtain ⟨cd_InvalidRow, xc_InvalidRow⟩ := fx.xc_InvalidRow.x
  refine fn_tree D sc_First___init__ (by decide) fun cdv A outer s H E r => ?_
  intro X hr hp tk po
  have hK : X.K = (tcN K cs).K := rfl
  have hc : X.calm = true := rfl
  have nd : X.N.Nodup := sc_First___init__.nd
  have hr2 : RoomG 2 X.A := hr.mono (by decide)
  exact (tss_cons (ts_if (tt_not (tt_truth hK (pt_res (tr_call ((ok_is_name fx D_is_name).mono (Nat.le_refl _)) (Fill.all (D_is_name.bindsN fun _ _ _ _ _ _ us hl => match us, hl with | [_], _ => rfl)) hr2 tk rfl fx.g_is_name D_is_name.kp (ta_cons (pt_var (pv 1)) ta_nil))))) (tss_one (ts_raise xc_InvalidRow fx.xc_InvalidRow.k1 fx.xc_InvalidRow.k2 fx.xc_InvalidRow.k3 fx.xc_InvalidRow.k4 (hr.mono (by omega)) hc tk rfl fx.g_InvalidRow pt_str)) tss_nil)
    (tss_one (ts_fld (k := 1) fx.c_First fx.n_First__place (pv 0) (pt_var (pv 1)))))
def N_is_word : List PySem.Str := ["value", "some"]
theorem sc_is_word : FnScope N_is_word ["value", "some"] (defScope (top 18)) := ⟨rfl, rfl, rfl, by decide +kernel, rfl, by decide +kernel, by decide +kernel⟩
theorem ok_is_word (fx : Fx P K mg) {fd : FuncData} (D : FunD K "is_word" "is_word" (defArgs (top 18)) (defBody (top 18)) (defScope (top 18)) (([] : List He.Dv).map (He.Dv.v K)) (([] : List (PySem.Str × He.Dv)).map fun q => (q.1, q.2.v K)) (He.ga K "is_word") fd) : FnG P w K mg base 2 (He.ga K "is_word") fd ["value", "some"] (spF (tcN K cs) 2 (Lib.F_is_word ks)) := by
  refine fn_tree D sc_is_word (by decide) fun cdv A outer s H E r => ?_
  intro X hr hp tk po
  have hK : X.K = (tcN K cs).K := rfl
  have hc : X.calm = true := rfl
  have nd : X.N.Nodup := sc_is_word.nd
  exact (tss_one (ts_ret hp (pt_and hK (pt_isi hK (AllP.all (.cons fx.q_Row (.cons fx.q_First (.cons fx.q_Mode (.cons fx.q_Turn (.cons fx.q_Lead (.cons fx.q_House .nil))))))) (Tgt.cls (tcN K cs) (.ty "str")) (fun d b h1 h2 => kitOne_of (isiB_ok fx.is_str d b h1 h2)) rfl fx.f_isinstance (pt_var (pv 0)) (pe_bltT (x := "str") (T := "str") (by rfl) fx.f_str boot_str)) (pt_one (pt_cmp (op_inP hK (u65 hr)) (pt_var (pv 0)) (pt_var (pv 1)) rfl)))))
def N_is_sequence : List PySem.Str := ["value"]
theorem sc_is_sequence : FnScope N_is_sequence ["value"] (defScope (top 8)) := ⟨rfl, rfl, rfl, by decide +kernel, rfl, by decide +kernel, by decide +kernel⟩
theorem ok_is_sequence (fx : Fx P K mg) {fd : FuncData} (D : FunD K "is_sequence" "is_sequence" (defArgs (top 8)) (defBody (top 8)) (defScope (top 8)) (([] : List He.Dv).map (He.Dv.v K)) (([] : List (PySem.Str × He.Dv)).map fun q => (q.1, q.2.v K)) (He.ga K "is_sequence") fd) : FnG P w K mg base 2 (He.ga K "is_sequence") fd ["value"] (spF (tcN K cs) 1 (Lib.F_is_sequence ks)) := by
  refine fn_tree D sc_is_sequence (by decide) fun cdv A outer s H E r => ?_
  intro X hr hp tk po
  have hK : X.K = (tcN K cs).K := rfl
  have hc : X.calm = true := rfl
  have nd : X.N.Nodup := sc_is_sequence.nd
  exact (tss_one (ts_ret hp (pt_isiT (tcl := fun _ _ _ => True) (us := [.ty "list", .ty "tuple"].map (Tgt.val (tcN K cs))) (vs := [.ty "list", .ty "tuple"].map (Tgt.v (tcN K cs))) hK (AllP.all (.cons fx.q_Row (.cons fx.q_First (.cons fx.q_Mode (.cons fx.q_Turn (.cons fx.q_Lead (.cons fx.q_House .nil))))))) (tgtAll _) (lenT (by decide +kernel)) (isiB_ok fx.is_list_tuple) rfl fx.f_isinstance (pt_var (pv 0)) (pa_cons (pe_bltT (x := "list") (T := "list") (by rfl) fx.f_list boot_list) (pa_cons (pe_bltT (x := "tuple") (T := "tuple") (by rfl) fx.f_tuple boot_tuple) pa_nil)))))
def N_are_names : List PySem.Str := ["value", "one"]
theorem sc_are_names : FnScope N_are_names ["value"] (defScope (top 9)) := ⟨rfl, rfl, rfl, by decide +kernel, rfl, by decide +kernel, by decide +kernel⟩
theorem ok_are_names (fx : Fx P K mg) {fd : FuncData} (D : FunD K "are_names" "are_names" (defArgs (top 9)) (defBody (top 9)) (defScope (top 9)) (([] : List He.Dv).map (He.Dv.v K)) (([] : List (PySem.Str × He.Dv)).map fun q => (q.1, q.2.v K)) (He.ga K "are_names") fd) : FnG P w K mg base 3 (He.ga K "are_names") fd ["value"] (spF (tcN K cs) 1 (Lib.F_are_names ks)) := by
  obtain ⟨fd_is_sequence, D_is_sequence⟩ := fx.d_is_sequence
  obtain ⟨fd_is_name, D_is_name⟩ := fx.d_is_name
  refine fn_tree D sc_are_names (by decide) fun cdv A outer s H E r => ?_
  intro X hr hp tk po
  have hK : X.K = (tcN K cs).K := rfl
  have hc : X.calm = true := rfl
  have nd : X.N.Nodup := sc_are_names.nd
  have hr2 : RoomG 2 X.A := hr.mono (by decide)
  exact (tss_one (ts_ret hp (pt_and hK (pt_res (tr_call ((ok_is_sequence fx D_is_sequence).mono (Nat.le_refl _)) (Fill.all (D_is_sequence.bindsN fun _ _ _ _ _ _ us hl => match us, hl with | [_], _ => rfl)) hr2 tk rfl fx.g_is_sequence D_is_sequence.kp (ta_cons (pt_var (pv 0)) ta_nil))) (pt_one (pt_res (tr_bui (x := "all") (bu_all hc) rfl fx.f_all boot_all (ta_cons (pt_of (pf_lc (own := [("one", 1)]) (us := [1]) hc nd (npins hp) subl (ti_any hp hK (pt_var (pv 0))) (blkOk_by (by kernel_rfl)) (fun s H C cl fp => (tg_name (i := 1) (pg_name (i := 1) nd rfl locOf) (npin hp))) (fun s H C cl fp => tts_nil) (fun s H C cl fp => (pt_res (tr_call ((ok_is_name fx D_is_name).mono (Nat.le_refl _)) (Fill.all (D_is_name.bindsN fun _ _ _ _ _ _ us hl => match us, hl with | [_], _ => rfl)) hr2 takesW0 rfl fx.g_is_name D_is_name.kp (ta_cons (pt_var (pv 1)) ta_nil)))))) ta_nil)))))))
def N_are_unlike_names : List PySem.Str := ["value", "one"]
theorem sc_are_unlike_names : FnScope N_are_unlike_names ["value"] (defScope (top 10)) := ⟨rfl, rfl, rfl, by decide +kernel, rfl, by decide +kernel, by decide +kernel⟩
theorem ok_are_unlike_names (fx : Fx P K mg) {fd : FuncData} (D : FunD K "are_unlike_names" "are_unlike_names" (defArgs (top 10)) (defBody (top 10)) (defScope (top 10)) (([] : List He.Dv).map (He.Dv.v K)) (([] : List (PySem.Str × He.Dv)).map fun q => (q.1, q.2.v K)) (He.ga K "are_unlike_names") fd) : FnG P w K mg base 4 (He.ga K "are_unlike_names") fd ["value"] (spF (tcN K cs) 1 (Lib.F_are_unlike_names ks)) := by
  obtain ⟨fd_are_names, D_are_names⟩ := fx.d_are_names
  refine fn_tree D sc_are_unlike_names (by decide) fun cdv A outer s H E r => ?_
  intro X hr hp tk po
  have hK : X.K = (tcN K cs).K := rfl
  have hc : X.calm = true := rfl
  have nd : X.N.Nodup := sc_are_unlike_names.nd
  have hr3 : RoomG 3 X.A := hr.mono (by decide)
  exact (tss_cons (ts_if (tt_not (tt_truth hK (pt_res (tr_call ((ok_are_names fx D_are_names).mono (Nat.le_refl _)) (Fill.all (D_are_names.bindsN fun _ _ _ _ _ _ us hl => match us, hl with | [_], _ => rfl)) hr3 tk rfl fx.g_are_names D_are_names.kp (ta_cons (pt_var (pv 0)) ta_nil))))) (tss_one (ts_ret hp pt_bl)) tss_nil)
    (tss_one (ts_ret hp (pt_cmp (op_eqP hK (u64 hr)) (pt_res (tr_bui (x := "len") (bu_lenD hK) rfl fx.f_len boot_len (ta_cons (pt_of (pf_dc (own := [("one", 1)]) (us := [1]) hc nd (npins hp) subl (ti_any hp hK (pt_var (pv 0))) (blkOk_by (by kernel_rfl)) (fun s H C cl fp => (tg_name (i := 1) (pg_name (i := 1) nd rfl locOf) (npin hp))) (fun s H C cl fp => tts_nil) (fun s H C cl fp => (pt_var (pv 1))) (fun s H C cl fp => pt_bl))) ta_nil))) (pt_res (tr_bui (x := "len") (bu_len hK) rfl fx.f_len boot_len (ta_cons (pt_var (pv 0)) ta_nil))) rfl))))
def N_Mode___init__ : List PySem.Str := ["self", "name", "promise", "ends"]
theorem sc_Mode___init__ : FnScope N_Mode___init__ ["self", "name", "promise", "ends"] (defScope (inClass (top 24) 0)) := ⟨rfl, rfl, rfl, by decide +kernel, rfl, by decide +kernel, by decide +kernel⟩
theorem x2_Mode___init__ (fx : Fx P K mg) {fd : FuncData} (D : FunD K "__init__" "Mode.__init__" (defArgs (inClass (top 24) 0)) (defBody (inClass (top 24) 0)) (defScope (inClass (top 24) 0)) (([.non, .adr (He.dflAt ("Mode", some "__init__") 1)] : List He.Dv).map (He.Dv.v K)) (([] : List (PySem.Str × He.Dv)).map fun q => (q.1, q.2.v K)) (He.ma K (He.ga K "Mode") "__init__") fd) : Fill (tcN K cs) K fd ["self", "name", "promise", "ends"] [.non, .tup []] := Fill.of (D.binds1 2 0 (by simp) rfl (fun _ _ _ _ _ _ _ us its h1 h2 => match us, its, h1, h2 with | [_, _], [_, _], _, _ => ⟨_, rfl, rfl⟩)) (fun G => (repl_cons rep_nonC (repl_cons (rep_tup0 fx.d_Mode___init___1) repl_nil)))
theorem x3_Mode___init__ (fx : Fx P K mg) {fd : FuncData} (D : FunD K "__init__" "Mode.__init__" (defArgs (inClass (top 24) 0)) (defBody (inClass (top 24) 0)) (defScope (inClass (top 24) 0)) (([.non, .adr (He.dflAt ("Mode", some "__init__") 1)] : List He.Dv).map (He.Dv.v K)) (([] : List (PySem.Str × He.Dv)).map fun q => (q.1, q.2.v K)) (He.ma K (He.ga K "Mode") "__init__") fd) : Fill (tcN K cs) K fd ["self", "name", "promise", "ends"] [.tup []] := Fill.of (D.binds1 3 1 (by simp) rfl (fun _ _ _ _ _ _ _ us its h1 h2 => match us, its, h1, h2 with | [_, _, _], [_, _], _, _ => ⟨_, rfl, rfl⟩)) (fun G => (repl_cons (rep_tup0 fx.d_Mode___init___1) repl_nil))
theorem x4_Mode___init__ (fx : Fx P K mg) {fd : FuncData} (D : FunD K "__init__" "Mode.__init__" (defArgs (inClass (top 24) 0)) (defBody (inClass (top 24) 0)) (defScope (inClass (top 24) 0)) (([.non, .adr (He.dflAt ("Mode", some "__init__") 1)] : List He.Dv).map (He.Dv.v K)) (([] : List (PySem.Str × He.Dv)).map fun q => (q.1, q.2.v K)) (He.ma K (He.ga K "Mode") "__init__") fd) : Fill (tcN K cs) K fd ["self", "name", "promise", "ends"] [] := Fill.of (D.binds1 4 2 (by simp) rfl (fun _ _ _ _ _ _ _ us its h1 h2 => match us, its, h1, h2 with | [_, _, _, _], [_, _], _, _ => ⟨_, rfl, rfl⟩)) (fun G => repl_nil)
theorem ok_Mode___init__ (fx : Fx P K mg) {fd : FuncData} (D : FunD K "__init__" "Mode.__init__" (defArgs (inClass (top 24) 0)) (defBody (inClass (top 24) 0)) (defScope (inClass (top 24) 0)) (([.non, .adr (He.dflAt ("Mode", some "__init__") 1)] : List He.Dv).map (He.Dv.v K)) (([] : List (PySem.Str × He.Dv)).map fun q => (q.1, q.2.v K)) (He.ma K (He.ga K "Mode") "__init__") fd) : FnG P w K mg base 5 (He.ma K (He.ga K "Mode") "__init__") fd ["self", "name", "promise", "ends"] (spF (tcN K cs) 4 (Lib.F_Mode___init__ ks)) := by
  obtain ⟨fd_is_name, D_is_name⟩ := fx.d_is_name
  obtain ⟨fd_is_word, D_is_word⟩ := fx.d_is_word
  obtain ⟨fd_are_unlike_names, D_are_unlike_names⟩ := fx.d_are_unlike_names
  obtain ⟨cd_InvalidRow, xc_InvalidRow⟩ := fx.xc_InvalidRow.x
  refine fn_tree D sc_Mode___init__ (by decide) fun cdv A outer s H E r => ?_
  intro X hr hp tk po
  have hK : X.K = (tcN K cs).K := rfl
  have hc : X.calm = true := rfl
  have nd : X.N.Nodup := sc_Mode___init__.nd
  have hr2 : RoomG 2 X.A := hr.mono (by decide)
  have hr4 : RoomG 4 X.A := hr.mono (by decide)
  exact (tss_cons (ts_if (tt_not (tt_truth hK (pt_res (tr_call ((ok_is_name fx D_is_name).mono (Nat.le_refl _)) (Fill.all (D_is_name.bindsN fun _ _ _ _ _ _ us hl => match us, hl with | [_], _ => rfl)) hr2 tk rfl fx.g_is_name D_is_name.kp (ta_cons (pt_var (pv 1)) ta_nil))))) (tss_one (ts_raise xc_InvalidRow fx.xc_InvalidRow.k1 fx.xc_InvalidRow.k2 fx.xc_InvalidRow.k3 fx.xc_InvalidRow.k4 (hr.mono (by omega)) hc tk rfl fx.g_InvalidRow pt_str)) tss_nil)
    (tss_cons (ts_if (tt_w (tw_and (tt_cmp op_notNP (pt_var (pv 2)) pt_non rfl) (tw_and1 (tt_not (tt_truth hK (pt_res (tr_call ((ok_is_word fx D_is_word).mono (Nat.le_refl _)) (Fill.all (D_is_word.bindsN fun _ _ _ _ _ _ us hl => match us, hl with | [_, _], _ => rfl)) hr2 tk rfl fx.g_is_word D_is_word.kp (ta_cons (pt_var (pv 2)) (ta_cons (pt_gref rfl fx.g_PROMISES (krep_tupS fx.t_PROMISES (strsG (by decide +kernel)))) ta_nil))))))))) (tss_one (ts_raise xc_InvalidRow fx.xc_InvalidRow.k1 fx.xc_InvalidRow.k2 fx.xc_InvalidRow.k3 fx.xc_InvalidRow.k4 (hr.mono (by omega)) hc tk rfl fx.g_InvalidRow pt_str)) tss_nil)
    (tss_cons (ts_if (tt_w (tw_or (tt_not (tt_truth hK (pt_res (tr_call ((ok_are_unlike_names fx D_are_unlike_names).mono (Nat.le_refl _)) (Fill.all (D_are_unlike_names.bindsN fun _ _ _ _ _ _ us hl => match us, hl with | [_], _ => rfl)) hr4 tk rfl fx.g_are_unlike_names D_are_unlike_names.kp (ta_cons (pt_var (pv 3)) ta_nil))))) (tw_or1 (tt_cmp (op_neP hK (u64 hr)) (pt_cmp op_gtP (pt_res (tr_bui (x := "len") (bu_len hK) rfl fx.f_len boot_len (ta_cons (pt_var (pv 3)) ta_nil))) pt_int rfl) (pt_cmp op_notNP (pt_var (pv 2)) pt_non rfl) rfl)))) (tss_one (ts_raise xc_InvalidRow fx.xc_InvalidRow.k1 fx.xc_InvalidRow.k2 fx.xc_InvalidRow.k3 fx.xc_InvalidRow.k4 (hr.mono (by omega)) hc tk rfl fx.g_InvalidRow pt_str)) tss_nil)
    (tss_cons (ts_fld (k := 2) fx.c_Mode fx.n_Mode__name (pv 0) (pt_var (pv 1)))
    (tss_cons (ts_fld (k := 2) fx.c_Mode fx.n_Mode__promise (pv 0) (pt_var (pv 2)))
    (tss_one (ts_fld (k := 2) fx.c_Mode fx.n_Mode__ends (pv 0) (pt_res (tr_buiT (x := "tuple") (bu_tuple hK) rfl fx.f_tuple boot_tuple (ta_cons (pt_var (pv 3)) ta_nil))))))))))
def N_Turn___init__ : List PySem.Str := ["self", "mode", "way", "places", "then"]
theorem sc_Turn___init__ : FnScope N_Turn___init__ ["self", "mode", "way", "places", "then"] (defScope (inClass (top 25) 0)) := ⟨rfl, rfl, rfl, by decide +kernel, rfl, by decide +kernel, by decide +kernel⟩
theorem ok_Turn___init__ (fx : Fx P K mg) {fd : FuncData} (D : FunD K "__init__" "Turn.__init__" (defArgs (inClass (top 25) 0)) (defBody (inClass (top 25) 0)) (defScope (inClass (top 25) 0)) (([] : List He.Dv).map (He.Dv.v K)) (([] : List (PySem.Str × He.Dv)).map fun q => (q.1, q.2.v K)) (He.ma K (He.ga K "Turn") "__init__") fd) : FnG P w K mg base 5 (He.ma K (He.ga K "Turn") "__init__") fd ["self", "mode", "way", "places", "then"] (spF (tcN K cs) 5 (Lib.F_Turn___init__ ks)) := by
  obtain ⟨fd_is_name, D_is_name⟩ := fx.d_is_name
  obtain ⟨fd_is_word, D_is_word⟩ := fx.d_is_word
  obtain ⟨fd_are_unlike_names, D_are_unlike_names⟩ := fx.d_are_unlike_names
  obtain ⟨cd_InvalidRow, xc_InvalidRow⟩ := fx.xc_InvalidRow.x
  refine fn_tree D sc_Turn___init__ (by decide) fun cdv A outer s H E r => ?_
  intro X hr hp tk po
  have hK : X.K = (tcN K cs).K := rfl
  have hc : X.calm = true := rfl
  have nd : X.N.Nodup := sc_Turn___init__.nd
  have hr2 : RoomG 2 X.A := hr.mono (by decide)
  have hr4 : RoomG 4 X.A := hr.mono (by decide)
  exact (tss_cons (ts_if (tt_not (tt_truth hK (pt_res (tr_call ((ok_is_name fx D_is_name).mono (Nat.le_refl _)) (Fill.all (D_is_name.bindsN fun _ _ _ _ _ _ us hl => match us, hl with | [_], _ => rfl)) hr2 tk rfl fx.g_is_name D_is_name.kp (ta_cons (pt_var (pv 1)) ta_nil))))) (tss_one (ts_raise xc_InvalidRow fx.xc_InvalidRow.k1 fx.xc_InvalidRow.k2 fx.xc_InvalidRow.k3 fx.xc_InvalidRow.k4 (hr.mono (by omega)) hc tk rfl fx.g_InvalidRow pt_str)) tss_nil)
    (tss_cons (ts_if (tt_not (tt_truth hK (pt_res (tr_call ((ok_is_word fx D_is_word).mono (Nat.le_refl _)) (Fill.all (D_is_word.bindsN fun _ _ _ _ _ _ us hl => match us, hl with | [_, _], _ => rfl)) hr2 tk rfl fx.g_is_word D_is_word.kp (ta_cons (pt_var (pv 2)) (ta_cons (pt_gref rfl fx.g_WAYS (krep_tupS fx.t_WAYS (strsG (by decide +kernel)))) ta_nil)))))) (tss_one (ts_raise xc_InvalidRow fx.xc_InvalidRow.k1 fx.xc_InvalidRow.k2 fx.xc_InvalidRow.k3 fx.xc_InvalidRow.k4 (hr.mono (by omega)) hc tk rfl fx.g_InvalidRow pt_str)) tss_nil)
    (tss_cons (ts_if (tt_w (tw_or (tt_not (tt_truth hK (pt_res (tr_call ((ok_are_unlike_names fx D_are_unlike_names).mono (Nat.le_refl _)) (Fill.all (D_are_unlike_names.bindsN fun _ _ _ _ _ _ us hl => match us, hl with | [_], _ => rfl)) hr4 tk rfl fx.g_are_unlike_names D_are_unlike_names.kp (ta_cons (pt_var (pv 3)) ta_nil))))) (tw_or1 (tt_cmp (op_neP hK (u64 hr)) (pt_cmp op_gtP (pt_res (tr_bui (x := "len") (bu_len hK) rfl fx.f_len boot_len (ta_cons (pt_var (pv 3)) ta_nil))) pt_int rfl) (pt_cmp (op_neP hK (u64 hr)) (pt_var (pv 2)) pt_str rfl) rfl)))) (tss_one (ts_raise xc_InvalidRow fx.xc_InvalidRow.k1 fx.xc_InvalidRow.k2 fx.xc_InvalidRow.k3 fx.xc_InvalidRow.k4 (hr.mono (by omega)) hc tk rfl fx.g_InvalidRow pt_str)) tss_nil)
    (tss_cons (ts_if (tt_not (tt_truth hK (pt_res (tr_call ((ok_is_name fx D_is_name).mono (Nat.le_refl _)) (Fill.all (D_is_name.bindsN fun _ _ _ _ _ _ us hl => match us, hl with | [_], _ => rfl)) hr2 tk rfl fx.g_is_name D_is_name.kp (ta_cons (pt_var (pv 4)) ta_nil))))) (tss_one (ts_raise xc_InvalidRow fx.xc_InvalidRow.k1 fx.xc_InvalidRow.k2 fx.xc_InvalidRow.k3 fx.xc_InvalidRow.k4 (hr.mono (by omega)) hc tk rfl fx.g_InvalidRow pt_str)) tss_nil)
    (tss_cons (ts_fld (k := 3) fx.c_Turn fx.n_Turn__mode (pv 0) (pt_var (pv 1)))
    (tss_cons (ts_fld (k := 3) fx.c_Turn fx.n_Turn__way (pv 0) (pt_var (pv 2)))
    (tss_cons (ts_fld (k := 3) fx.c_Turn fx.n_Turn__places (pv 0) (pt_res (tr_buiT (x := "tuple") (bu_tuple hK) rfl fx.f_tuple boot_tuple (ta_cons (pt_var (pv 3)) ta_nil))))
    (tss_one (ts_fld (k := 3) fx.c_Turn fx.n_Turn__then (pv 0) (pt_var (pv 4)))))))))))
def N_Lead___init__ : List PySem.Str := ["self", "mode", "place", "event", "then", "sends"]
theorem sc_Lead___init__ : FnScope N_Lead___init__ ["self", "mode", "place", "event", "then", "sends"] (defScope (inClass (top 26) 0)) := ⟨rfl, rfl, rfl, by decide +kernel, rfl, by decide +kernel, by decide +kernel⟩
theorem x5_Lead___init__ (fx : Fx P K mg) {fd : FuncData} (D : FunD K "__init__" "Lead.__init__" (defArgs (inClass (top 26) 0)) (defBody (inClass (top 26) 0)) (defScope (inClass (top 26) 0)) (([.adr (He.dflAt ("Lead", some "__init__") 0)] : List He.Dv).map (He.Dv.v K)) (([] : List (PySem.Str × He.Dv)).map fun q => (q.1, q.2.v K)) (He.ma K (He.ga K "Lead") "__init__") fd) : Fill (tcN K cs) K fd ["self", "mode", "place", "event", "then", "sends"] [.tup []] := Fill.of (D.binds1 5 0 (by simp) rfl (fun _ _ _ _ _ _ _ us its h1 h2 => match us, its, h1, h2 with | [_, _, _, _, _], [_], _, _ => ⟨_, rfl, rfl⟩)) (fun G => (repl_cons (rep_tup0 fx.d_Lead___init___0) repl_nil))
theorem x6_Lead___init__ (fx : Fx P K mg) {fd : FuncData} (D : FunD K "__init__" "Lead.__init__" (defArgs (inClass (top 26) 0)) (defBody (inClass (top 26) 0)) (defScope (inClass (top 26) 0)) (([.adr (He.dflAt ("Lead", some "__init__") 0)] : List He.Dv).map (He.Dv.v K)) (([] : List (PySem.Str × He.Dv)).map fun q => (q.1, q.2.v K)) (He.ma K (He.ga K "Lead") "__init__") fd) : Fill (tcN K cs) K fd ["self", "mode", "place", "event", "then", "sends"] [] := Fill.of (D.binds1 6 1 (by simp) rfl (fun _ _ _ _ _ _ _ us its h1 h2 => match us, its, h1, h2 with | [_, _, _, _, _, _], [_], _, _ => ⟨_, rfl, rfl⟩)) (fun G => repl_nil)
theorem ok_Lead___init__ (fx : Fx P K mg) {fd : FuncData} (D : FunD K "__init__" "Lead.__init__" (defArgs (inClass (top 26) 0)) (defBody (inClass (top 26) 0)) (defScope (inClass (top 26) 0)) (([.adr (He.dflAt ("Lead", some "__init__") 0)] : List He.Dv).map (He.Dv.v K)) (([] : List (PySem.Str × He.Dv)).map fun q => (q.1, q.2.v K)) (He.ma K (He.ga K "Lead") "__init__") fd) : FnG P w K mg base 4 (He.ma K (He.ga K "Lead") "__init__") fd ["self", "mode", "place", "event", "then", "sends"] (spF (tcN K cs) 6 (Lib.F_Lead___init__ ks)) := by
  obtain ⟨fd_is_name, D_is_name⟩ := fx.d_is_name
  obtain ⟨fd_is_word, D_is_word⟩ := fx.d_is_word
  obtain ⟨fd_are_names, D_are_names⟩ := fx.d_are_names
  obtain ⟨cd_InvalidRow, xc_InvalidRow⟩ := fx.xc_InvalidRow.x
  refine fn_tree D sc_Lead___init__ (by decide) fun cdv A outer s H E r => ?_
  intro X hr hp tk po
  have hK : X.K = (tcN K cs).K := rfl
  have hc : X.calm = true := rfl
  have nd : X.N.Nodup := sc_Lead___init__.nd
  have hr2 : RoomG 2 X.A := hr.mono (by decide)
  have hr3 : RoomG 3 X.A := hr.mono (by decide)
  exact (tss_cons (ts_if (tt_w (tw_and (tt_not (tt_truth hK (pt_res (tr_call ((ok_is_name fx D_is_name).mono (Nat.le_refl _)) (Fill.all (D_is_name.bindsN fun _ _ _ _ _ _ us hl => match us, hl with | [_], _ => rfl)) hr2 tk rfl fx.g_is_name D_is_name.kp (ta_cons (pt_var (pv 1)) ta_nil))))) (tw_and1 (tt_not (tt_truth hK (pt_res (tr_call ((ok_is_word fx D_is_word).mono (Nat.le_refl _)) (Fill.all (D_is_word.bindsN fun _ _ _ _ _ _ us hl => match us, hl with | [_, _], _ => rfl)) hr2 tk rfl fx.g_is_word D_is_word.kp (ta_cons (pt_var (pv 1)) (ta_cons (pt_tup (ta_cons pt_str ta_nil)) ta_nil))))))))) (tss_one (ts_raise xc_InvalidRow fx.xc_InvalidRow.k1 fx.xc_InvalidRow.k2 fx.xc_InvalidRow.k3 fx.xc_InvalidRow.k4 (hr.mono (by omega)) hc tk rfl fx.g_InvalidRow pt_str)) tss_nil)
    (tss_cons (ts_if (tt_w (tw_and (tt_not (tt_truth hK (pt_res (tr_call ((ok_is_name fx D_is_name).mono (Nat.le_refl _)) (Fill.all (D_is_name.bindsN fun _ _ _ _ _ _ us hl => match us, hl with | [_], _ => rfl)) hr2 tk rfl fx.g_is_name D_is_name.kp (ta_cons (pt_var (pv 2)) ta_nil))))) (tw_and1 (tt_not (tt_truth hK (pt_res (tr_call ((ok_is_word fx D_is_word).mono (Nat.le_refl _)) (Fill.all (D_is_word.bindsN fun _ _ _ _ _ _ us hl => match us, hl with | [_, _], _ => rfl)) hr2 tk rfl fx.g_is_word D_is_word.kp (ta_cons (pt_var (pv 2)) (ta_cons (pt_tup (ta_cons pt_str ta_nil)) ta_nil))))))))) (tss_one (ts_raise xc_InvalidRow fx.xc_InvalidRow.k1 fx.xc_InvalidRow.k2 fx.xc_InvalidRow.k3 fx.xc_InvalidRow.k4 (hr.mono (by omega)) hc tk rfl fx.g_InvalidRow pt_str)) tss_nil)
    (tss_cons (ts_if (tt_w (tw_and (tt_not (tt_truth hK (pt_res (tr_call ((ok_is_name fx D_is_name).mono (Nat.le_refl _)) (Fill.all (D_is_name.bindsN fun _ _ _ _ _ _ us hl => match us, hl with | [_], _ => rfl)) hr2 tk rfl fx.g_is_name D_is_name.kp (ta_cons (pt_var (pv 3)) ta_nil))))) (tw_and1 (tt_not (tt_truth hK (pt_res (tr_call ((ok_is_word fx D_is_word).mono (Nat.le_refl _)) (Fill.all (D_is_word.bindsN fun _ _ _ _ _ _ us hl => match us, hl with | [_, _], _ => rfl)) hr2 tk rfl fx.g_is_word D_is_word.kp (ta_cons (pt_var (pv 3)) (ta_cons (pt_tup (ta_cons pt_str ta_nil)) ta_nil))))))))) (tss_one (ts_raise xc_InvalidRow fx.xc_InvalidRow.k1 fx.xc_InvalidRow.k2 fx.xc_InvalidRow.k3 fx.xc_InvalidRow.k4 (hr.mono (by omega)) hc tk rfl fx.g_InvalidRow pt_str)) tss_nil)
    (tss_cons (ts_if (tt_w (tw_and (tt_not (tt_truth hK (pt_res (tr_call ((ok_is_name fx D_is_name).mono (Nat.le_refl _)) (Fill.all (D_is_name.bindsN fun _ _ _ _ _ _ us hl => match us, hl with | [_], _ => rfl)) hr2 tk rfl fx.g_is_name D_is_name.kp (ta_cons (pt_var (pv 4)) ta_nil))))) (tw_and1 (tt_not (tt_truth hK (pt_res (tr_call ((ok_is_word fx D_is_word).mono (Nat.le_refl _)) (Fill.all (D_is_word.bindsN fun _ _ _ _ _ _ us hl => match us, hl with | [_, _], _ => rfl)) hr2 tk rfl fx.g_is_word D_is_word.kp (ta_cons (pt_var (pv 4)) (ta_cons (pt_tup (ta_cons pt_str ta_nil)) ta_nil))))))))) (tss_one (ts_raise xc_InvalidRow fx.xc_InvalidRow.k1 fx.xc_InvalidRow.k2 fx.xc_InvalidRow.k3 fx.xc_InvalidRow.k4 (hr.mono (by omega)) hc tk rfl fx.g_InvalidRow pt_str)) tss_nil)
    (tss_cons (ts_if (tt_not (tt_truth hK (pt_res (tr_call ((ok_are_names fx D_are_names).mono (Nat.le_refl _)) (Fill.all (D_are_names.bindsN fun _ _ _ _ _ _ us hl => match us, hl with | [_], _ => rfl)) hr3 tk rfl fx.g_are_names D_are_names.kp (ta_cons (pt_var (pv 5)) ta_nil))))) (tss_one (ts_raise xc_InvalidRow fx.xc_InvalidRow.k1 fx.xc_InvalidRow.k2 fx.xc_InvalidRow.k3 fx.xc_InvalidRow.k4 (hr.mono (by omega)) hc tk rfl fx.g_InvalidRow pt_str)) tss_nil)
    (tss_cons (ts_fld (k := 4) fx.c_Lead fx.n_Lead__mode (pv 0) (pt_var (pv 1)))
    (tss_cons (ts_fld (k := 4) fx.c_Lead fx.n_Lead__place (pv 0) (pt_var (pv 2)))
    (tss_cons (ts_fld (k := 4) fx.c_Lead fx.n_Lead__event (pv 0) (pt_var (pv 3)))
    (tss_cons (ts_fld (k := 4) fx.c_Lead fx.n_Lead__then (pv 0) (pt_var (pv 4)))
    (tss_one (ts_fld (k := 4) fx.c_Lead fx.n_Lead__sends (pv 0) (pt_res (tr_buiT (x := "tuple") (bu_tuple hK) rfl fx.f_tuple boot_tuple (ta_cons (pt_var (pv 5)) ta_nil))))))))))))))
def N_is_phase : List PySem.Str := ["value"]
theorem sc_is_phase : FnScope N_is_phase ["value"] (defScope (top 19)) := ⟨rfl, rfl, rfl, by decide +kernel, rfl, by decide +kernel, by decide +kernel⟩
theorem ok_is_phase (fx : Fx P K mg) {fd : FuncData} (D : FunD K "is_phase" "is_phase" (defArgs (top 19)) (defBody (top 19)) (defScope (top 19)) (([] : List He.Dv).map (He.Dv.v K)) (([] : List (PySem.Str × He.Dv)).map fun q => (q.1, q.2.v K)) (He.ga K "is_phase") fd) : FnG P w K mg base 3 (He.ga K "is_phase") fd ["value"] (spF (tcN K cs) 1 (Lib.F_is_phase ks)) := by
  obtain ⟨fd_is_name, D_is_name⟩ := fx.d_is_name
  obtain ⟨fd_is_word, D_is_word⟩ := fx.d_is_word
  refine fn_tree D sc_is_phase (by decide) fun cdv A outer s H E r => ?_
  intro X hr hp tk po
  have hK : X.K = (tcN K cs).K := rfl
  have hc : X.calm = true := rfl
  have nd : X.N.Nodup := sc_is_phase.nd
  have hr2 : RoomG 2 X.A := hr.mono (by decide)
  exact (tss_one (ts_ret hp (pt_or hK (pt_res (tr_call ((ok_is_name fx D_is_name).mono (Nat.le_refl _)) (Fill.all (D_is_name.bindsN fun _ _ _ _ _ _ us hl => match us, hl with | [_], _ => rfl)) hr2 tk rfl fx.g_is_name D_is_name.kp (ta_cons (pt_var (pv 0)) ta_nil))) (pt_one (pt_res (tr_call ((ok_is_word fx D_is_word).mono (Nat.le_refl _)) (Fill.all (D_is_word.bindsN fun _ _ _ _ _ _ us hl => match us, hl with | [_, _], _ => rfl)) hr2 tk rfl fx.g_is_word D_is_word.kp (ta_cons (pt_var (pv 0)) (ta_cons (pt_tup (ta_cons pt_str ta_nil)) ta_nil))))))))
def N_is_test : List PySem.Str := ["value", "word", "name"]
theorem sc_is_test : FnScope N_is_test ["value"] (defScope (top 20)) := ⟨rfl, rfl, rfl, by decide +kernel, rfl, by decide +kernel, by decide +kernel⟩
theorem ok_is_test (fx : Fx P K mg) {fd : FuncData} (D : FunD K "is_test" "is_test" (defArgs (top 20)) (defBody (top 20)) (defScope (top 20)) (([] : List He.Dv).map (He.Dv.v K)) (([] : List (PySem.Str × He.Dv)).map fun q => (q.1, q.2.v K)) (He.ga K "is_test") fd) : FnG P w K mg base 4 (He.ga K "is_test") fd ["value"] (spF (tcN K cs) 1 (Lib.F_is_test ks)) := by
  obtain ⟨fd_is_phase, D_is_phase⟩ := fx.d_is_phase
  obtain ⟨fd_is_name, D_is_name⟩ := fx.d_is_name
  refine fn_tree D sc_is_test (by decide) fun cdv A outer s H E r => ?_
  intro X hr hp tk po
  have hK : X.K = (tcN K cs).K := rfl
  have hc : X.calm = true := rfl
  have nd : X.N.Nodup := sc_is_test.nd
  have hr2 : RoomG 2 X.A := hr.mono (by decide)
  have hr3 : RoomG 3 X.A := hr.mono (by decide)
  exact (tss_cons (ts_if (tt_not (tt_truth hK (pt_isi hK (AllP.all (.cons fx.q_Row (.cons fx.q_First (.cons fx.q_Mode (.cons fx.q_Turn (.cons fx.q_Lead (.cons fx.q_House .nil))))))) (Tgt.cls (tcN K cs) (.ty "str")) (fun d b h1 h2 => kitOne_of (isiB_ok fx.is_str d b h1 h2)) rfl fx.f_isinstance (pt_var (pv 0)) (pe_bltT (x := "str") (T := "str") (by rfl) fx.f_str boot_str)))) (tss_one (ts_ret hp pt_bl)) tss_nil)
    (tss_cons (ts_match (pt_res (tr_met (T := "str") (id := "str.split") (name := "split") hK PySem.F.plainAttrs_str PySem.F.slot_str_split PySem.F.type_str_split mt_splitM (pt_res (tr_met (T := "str") (id := "str.removeprefix") (name := "removeprefix") hK PySem.F.plainAttrs_str PySem.F.slot_str_removeprefix PySem.F.type_str_removeprefix mt_removeprefixM (pt_var (pv 0)) (ta_cons pt_str ta_nil))) (ta_cons pt_str ta_nil))) (tm_seq (is := [1, 2]) (xs := ["word", "name"]) hK hc nd (.cons (.cons .nil)) rfl rfl (capq (N := N_is_test) (sc := defScope (top 20)) hp rfl rfl (by decide +kernel)) rfl (tss_one (ts_ret hp (pt_if (tt_cmp (op_eqP hK (u64 hr)) (pt_var (pv 1)) pt_str rfl) (pt_res (tr_call ((ok_is_phase fx D_is_phase).mono (Nat.le_refl _)) (Fill.all (D_is_phase.bindsN fun _ _ _ _ _ _ us hl => match us, hl with | [_], _ => rfl)) hr3 tk rfl fx.g_is_phase D_is_phase.kp (ta_cons (pt_var (pv 2)) ta_nil))) (pt_and hK (pt_cmp (op_eqP hK (u64 hr)) (pt_var (pv 1)) pt_str rfl) (pt_one (pt_res (tr_call ((ok_is_name fx D_is_name).mono (Nat.le_refl _)) (Fill.all (D_is_name.bindsN fun _ _ _ _ _ _ us hl => match us, hl with | [_], _ => rfl)) hr2 tk rfl fx.g_is_name D_is_name.kp (ta_cons (pt_var (pv 2)) ta_nil)))))))) (tm_seq (is := [1]) (xs := ["word"]) hK hc nd (.cons .nil) rfl rfl (capq (N := N_is_test) (sc := defScope (top 20)) hp rfl rfl (by decide +kernel)) rfl (tss_one (ts_ret hp (pt_cmp (op_inP hK (u65 hr)) (pt_var (pv 1)) (pt_gref rfl fx.g_PLAIN_TESTS (krep_tupS fx.t_PLAIN_TESTS (strsG (by decide +kernel)))) rfl))) tm_nil)))
    (tss_one (ts_ret hp pt_bl))))
def N_is_deed : List PySem.Str := ["value", "word", "name"]
theorem sc_is_deed : FnScope N_is_deed ["value"] (defScope (top 21)) := ⟨rfl, rfl, rfl, by decide +kernel, rfl, by decide +kernel, by decide +kernel⟩
theorem ok_is_deed (fx : Fx P K mg) {fd : FuncData} (D : FunD K "is_deed" "is_deed" (defArgs (top 21)) (defBody (top 21)) (defScope (top 21)) (([] : List He.Dv).map (He.Dv.v K)) (([] : List (PySem.Str × He.Dv)).map fun q => (q.1, q.2.v K)) (He.ga K "is_deed") fd) : FnG P w K mg base 4 (He.ga K "is_deed") fd ["value"] (spF (tcN K cs) 1 (Lib.F_is_deed ks)) := by
  obtain ⟨fd_is_phase, D_is_phase⟩ := fx.d_is_phase
  obtain ⟨fd_is_name, D_is_name⟩ := fx.d_is_name
  refine fn_tree D sc_is_deed (by decide) fun cdv A outer s H E r => ?_
  intro X hr hp tk po
  have hK : X.K = (tcN K cs).K := rfl
  have hc : X.calm = true := rfl
  have nd : X.N.Nodup := sc_is_deed.nd
  have hr2 : RoomG 2 X.A := hr.mono (by decide)
  have hr3 : RoomG 3 X.A := hr.mono (by decide)
  exact (tss_cons (ts_if (tt_not (tt_truth hK (pt_isi hK (AllP.all (.cons fx.q_Row (.cons fx.q_First (.cons fx.q_Mode (.cons fx.q_Turn (.cons fx.q_Lead (.cons fx.q_House .nil))))))) (Tgt.cls (tcN K cs) (.ty "str")) (fun d b h1 h2 => kitOne_of (isiB_ok fx.is_str d b h1 h2)) rfl fx.f_isinstance (pt_var (pv 0)) (pe_bltT (x := "str") (T := "str") (by rfl) fx.f_str boot_str)))) (tss_one (ts_ret hp pt_bl)) tss_nil)
    (tss_cons (ts_match (pt_res (tr_met (T := "str") (id := "str.split") (name := "split") hK PySem.F.plainAttrs_str PySem.F.slot_str_split PySem.F.type_str_split mt_splitM (pt_var (pv 0)) (ta_cons pt_str ta_nil))) (tm_seq (is := [1, 2]) (xs := ["word", "name"]) hK hc nd (.cons (.cons .nil)) rfl rfl (capq (N := N_is_deed) (sc := defScope (top 21)) hp rfl rfl (by decide +kernel)) rfl (tss_one (ts_ret hp (pt_if (tt_cmp (op_eqP hK (u64 hr)) (pt_var (pv 1)) pt_str rfl) (pt_res (tr_call ((ok_is_phase fx D_is_phase).mono (Nat.le_refl _)) (Fill.all (D_is_phase.bindsN fun _ _ _ _ _ _ us hl => match us, hl with | [_], _ => rfl)) hr3 tk rfl fx.g_is_phase D_is_phase.kp (ta_cons (pt_var (pv 2)) ta_nil))) (pt_and hK (pt_cmp (op_inP hK (u65 hr)) (pt_var (pv 1)) (pt_gref rfl fx.g_NAMED_DEEDS (krep_tupS fx.t_NAMED_DEEDS (strsG (by decide +kernel)))) rfl) (pt_one (pt_res (tr_call ((ok_is_name fx D_is_name).mono (Nat.le_refl _)) (Fill.all (D_is_name.bindsN fun _ _ _ _ _ _ us hl => match us, hl with | [_], _ => rfl)) hr2 tk rfl fx.g_is_name D_is_name.kp (ta_cons (pt_var (pv 2)) ta_nil)))))))) (tm_seq (is := [1]) (xs := ["word"]) hK hc nd (.cons .nil) rfl rfl (capq (N := N_is_deed) (sc := defScope (top 21)) hp rfl rfl (by decide +kernel)) rfl (tss_one (ts_ret hp (pt_cmp (op_inP hK (u65 hr)) (pt_var (pv 1)) (pt_gref rfl fx.g_PLAIN_DEEDS (krep_tupS fx.t_PLAIN_DEEDS (strsG (by decide +kernel)))) rfl))) tm_nil)))
    (tss_one (ts_ret hp pt_bl))))
def N_House___init__ : List PySem.Str := ["self", "event", "tests", "deeds", "test", "deed"]
theorem sc_House___init__ : FnScope N_House___init__ ["self", "event", "tests", "deeds"] (defScope (inClass (top 27) 0)) := ⟨rfl, rfl, rfl, by decide +kernel, rfl, by decide +kernel, by decide +kernel⟩
theorem x2_House___init__ (fx : Fx P K mg) {fd : FuncData} (D : FunD K "__init__" "House.__init__" (defArgs (inClass (top 27) 0)) (defBody (inClass (top 27) 0)) (defScope (inClass (top 27) 0)) (([.adr (He.dflAt ("House", some "__init__") 0), .adr (He.dflAt ("House", some "__init__") 1)] : List He.Dv).map (He.Dv.v K)) (([] : List (PySem.Str × He.Dv)).map fun q => (q.1, q.2.v K)) (He.ma K (He.ga K "House") "__init__") fd) : Fill (tcN K cs) K fd ["self", "event", "tests", "deeds"] [.tup [], .tup []] := Fill.of (D.binds1 2 0 (by simp) rfl (fun _ _ _ _ _ _ _ us its h1 h2 => match us, its, h1, h2 with | [_, _], [_, _], _, _ => ⟨_, rfl, rfl⟩)) (fun G => (repl_cons (rep_tup0 fx.d_House___init___0) (repl_cons (rep_tup0 fx.d_House___init___1) repl_nil)))
theorem x3_House___init__ (fx : Fx P K mg) {fd : FuncData} (D : FunD K "__init__" "House.__init__" (defArgs (inClass (top 27) 0)) (defBody (inClass (top 27) 0)) (defScope (inClass (top 27) 0)) (([.adr (He.dflAt ("House", some "__init__") 0), .adr (He.dflAt ("House", some "__init__") 1)] : List He.Dv).map (He.Dv.v K)) (([] : List (PySem.Str × He.Dv)).map fun q => (q.1, q.2.v K)) (He.ma K (He.ga K "House") "__init__") fd) : Fill (tcN K cs) K fd ["self", "event", "tests", "deeds"] [.tup []] := Fill.of (D.binds1 3 1 (by simp) rfl (fun _ _ _ _ _ _ _ us its h1 h2 => match us, its, h1, h2 with | [_, _, _], [_, _], _, _ => ⟨_, rfl, rfl⟩)) (fun G => (repl_cons (rep_tup0 fx.d_House___init___1) repl_nil))
theorem x4_House___init__ (fx : Fx P K mg) {fd : FuncData} (D : FunD K "__init__" "House.__init__" (defArgs (inClass (top 27) 0)) (defBody (inClass (top 27) 0)) (defScope (inClass (top 27) 0)) (([.adr (He.dflAt ("House", some "__init__") 0), .adr (He.dflAt ("House", some "__init__") 1)] : List He.Dv).map (He.Dv.v K)) (([] : List (PySem.Str × He.Dv)).map fun q => (q.1, q.2.v K)) (He.ma K (He.ga K "House") "__init__") fd) : Fill (tcN K cs) K fd ["self", "event", "tests", "deeds"] [] := Fill.of (D.binds1 4 2 (by simp) rfl (fun _ _ _ _ _ _ _ us its h1 h2 => match us, its, h1, h2 with | [_, _, _, _], [_, _], _, _ => ⟨_, rfl, rfl⟩)) (fun G => repl_nil)
theorem ok_House___init__ (fx : Fx P K mg) {fd : FuncData} (D : FunD K "__init__" "House.__init__" (defArgs (inClass (top 27) 0)) (defBody (inClass (top 27) 0)) (defScope (inClass (top 27) 0)) (([.adr (He.dflAt ("House", some "__init__") 0), .adr (He.dflAt ("House", some "__init__") 1)] : List He.Dv).map (He.Dv.v K)) (([] : List (PySem.Str × He.Dv)).map fun q => (q.1, q.2.v K)) (He.ma K (He.ga K "House") "__init__") fd) : FnG P w K mg base 5 (He.ma K (He.ga K "House") "__init__") fd ["self", "event", "tests", "deeds"] (spF (tcN K cs) 4 (Lib.F_House___init__ ks)) := by
  obtain ⟨fd_is_name, D_is_name⟩ := fx.d_is_name
  obtain ⟨fd_is_word, D_is_word⟩ := fx.d_is_word
  obtain ⟨fd_is_sequence, D_is_sequence⟩ := fx.d_is_sequence
  obtain ⟨fd_is_test, D_is_test⟩ := fx.d_is_test
  obtain ⟨fd_is_deed, D_is_deed⟩ := fx.d_is_deed
  obtain ⟨cd_InvalidRow, xc_InvalidRow⟩ := fx.xc_InvalidRow.x
  refine fn_tree D sc_House___init__ (by decide) fun cdv A outer s H E r => ?_
  intro X hr hp tk po
  have hK : X.K = (tcN K cs).K := rfl
  have hc : X.calm = true := rfl
  have nd : X.N.Nodup := sc_House___init__.nd
  have hr2 : RoomG 2 X.A := hr.mono (by decide)
  have hr4 : RoomG 4 X.A := hr.mono (by decide)
  exact (tss_cons (ts_if (tt_w (tw_and (tt_not (tt_truth hK (pt_res (tr_call ((ok_is_name fx D_is_name).mono (Nat.le_refl _)) (Fill.all (D_is_name.bindsN fun _ _ _ _ _ _ us hl => match us, hl with | [_], _ => rfl)) hr2 tk rfl fx.g_is_name D_is_name.kp (ta_cons (pt_var (pv 1)) ta_nil))))) (tw_and1 (tt_not (tt_truth hK (pt_res (tr_call ((ok_is_word fx D_is_word).mono (Nat.le_refl _)) (Fill.all (D_is_word.bindsN fun _ _ _ _ _ _ us hl => match us, hl with | [_, _], _ => rfl)) hr2 tk rfl fx.g_is_word D_is_word.kp (ta_cons (pt_var (pv 1)) (ta_cons (pt_gref rfl fx.g_PLAIN_EVENTS (krep_tupS fx.t_PLAIN_EVENTS (strsG (by decide +kernel)))) ta_nil))))))))) (tss_one (ts_raise xc_InvalidRow fx.xc_InvalidRow.k1 fx.xc_InvalidRow.k2 fx.xc_InvalidRow.k3 fx.xc_InvalidRow.k4 (hr.mono (by omega)) hc tk rfl fx.g_InvalidRow pt_str)) tss_nil)
    (tss_cons (ts_if (tt_w (tw_or (tt_not (tt_truth hK (pt_res (tr_call ((ok_is_sequence fx D_is_sequence).mono (Nat.le_refl _)) (Fill.all (D_is_sequence.bindsN fun _ _ _ _ _ _ us hl => match us, hl with | [_], _ => rfl)) hr2 tk rfl fx.g_is_sequence D_is_sequence.kp (ta_cons (pt_var (pv 2)) ta_nil))))) (tw_or1 (tt_not (tt_truth hK (pt_res (tr_bui (x := "all") (bu_all hc) rfl fx.f_all boot_all (ta_cons (pt_of (pf_lc (own := [("test", 4)]) (us := [4]) hc nd (npins hp) subl (ti_any hp hK (pt_var (pv 2))) (blkOk_by (by kernel_rfl)) (fun s H C cl fp => (tg_name (i := 4) (pg_name (i := 4) nd rfl locOf) (npin hp))) (fun s H C cl fp => tts_nil) (fun s H C cl fp => (pt_res (tr_call ((ok_is_test fx D_is_test).mono (Nat.le_refl _)) (Fill.all (D_is_test.bindsN fun _ _ _ _ _ _ us hl => match us, hl with | [_], _ => rfl)) hr4 takesW0 rfl fx.g_is_test D_is_test.kp (ta_cons (pt_var (pv 4)) ta_nil)))))) ta_nil)))))))) (tss_one (ts_raise xc_InvalidRow fx.xc_InvalidRow.k1 fx.xc_InvalidRow.k2 fx.xc_InvalidRow.k3 fx.xc_InvalidRow.k4 (hr.mono (by omega)) hc tk rfl fx.g_InvalidRow pt_str)) tss_nil)
    (tss_cons (ts_if (tt_w (tw_or (tt_not (tt_truth hK (pt_res (tr_call ((ok_is_sequence fx D_is_sequence).mono (Nat.le_refl _)) (Fill.all (D_is_sequence.bindsN fun _ _ _ _ _ _ us hl => match us, hl with | [_], _ => rfl)) hr2 tk rfl fx.g_is_sequence D_is_sequence.kp (ta_cons (pt_var (pv 3)) ta_nil))))) (tw_or1 (tt_not (tt_truth hK (pt_res (tr_bui (x := "all") (bu_all hc) rfl fx.f_all boot_all (ta_cons (pt_of (pf_lc (own := [("deed", 5)]) (us := [5]) hc nd (npins hp) subl (ti_any hp hK (pt_var (pv 3))) (blkOk_by (by kernel_rfl)) (fun s H C cl fp => (tg_name (i := 5) (pg_name (i := 5) nd rfl locOf) (npin hp))) (fun s H C cl fp => tts_nil) (fun s H C cl fp => (pt_res (tr_call ((ok_is_deed fx D_is_deed).mono (Nat.le_refl _)) (Fill.all (D_is_deed.bindsN fun _ _ _ _ _ _ us hl => match us, hl with | [_], _ => rfl)) hr4 takesW0 rfl fx.g_is_deed D_is_deed.kp (ta_cons (pt_var (pv 5)) ta_nil)))))) ta_nil)))))))) (tss_one (ts_raise xc_InvalidRow fx.xc_InvalidRow.k1 fx.xc_InvalidRow.k2 fx.xc_InvalidRow.k3 fx.xc_InvalidRow.k4 (hr.mono (by omega)) hc tk rfl fx.g_InvalidRow pt_str)) tss_nil)
    (tss_cons (ts_fld (k := 5) fx.c_House fx.n_House__event (pv 0) (pt_var (pv 1)))
    (tss_cons (ts_fld (k := 5) fx.c_House fx.n_House__tests (pv 0) (pt_res (tr_buiT (x := "tuple") (bu_tuple hK) rfl fx.f_tuple boot_tuple (ta_cons (pt_var (pv 2)) ta_nil))))
    (tss_one (ts_fld (k := 5) fx.c_House fx.n_House__deeds (pv 0) (pt_res (tr_buiT (x := "tuple") (bu_tuple hK) rfl fx.f_tuple boot_tuple (ta_cons (pt_var (pv 3)) ta_nil))))))))))
def N__law_made : List PySem.Str := ["_law_row_here"]
theorem sc__law_made : FnScope N__law_made ["_law_row_here"] (defScope (top 44)) := ⟨rfl, rfl, rfl, by decide +kernel, rfl, by decide +kernel, by decide +kernel⟩
theorem ok__law_made (fx : Fx P K mg) {fd : FuncData} (D : FunD K "_law_made" "_law_made" (defArgs (top 44)) (defBody (top 44)) (defScope (top 44)) (([] : List He.Dv).map (He.Dv.v K)) (([] : List (PySem.Str × He.Dv)).map fun q => (q.1, q.2.v K)) (He.ga K "_law_made") fd) : FnG P w K mg base 7 (He.ga K "_law_made") fd ["_law_row_here"] (spF (tcN K cs) 1 (Lib.F_h_made ks)) := by
  obtain ⟨fd_First___init__, D_First___init__⟩ := fx.d_First___init__
  obtain ⟨fd_Mode___init__, D_Mode___init__⟩ := fx.d_Mode___init__
  obtain ⟨fd_Turn___init__, D_Turn___init__⟩ := fx.d_Turn___init__
  obtain ⟨fd_Lead___init__, D_Lead___init__⟩ := fx.d_Lead___init__
  obtain ⟨fd_House___init__, D_House___init__⟩ := fx.d_House___init__
  refine fn_tree D sc__law_made (by decide) fun cdv A outer s H E r => ?_
  intro X hr hp tk po
  have hK : X.K = (tcN K cs).K := rfl
  have hc : X.calm = true := rfl
  have nd : X.N.Nodup := sc__law_made.nd
  have hr4 : RoomG 4 X.A := hr.mono (by decide)
  have hr5 : RoomG 5 X.A := hr.mono (by decide)
  have hr6 : RoomG 6 X.A := hr.mono (by decide)
  exact (tss_cons (ts_if (tt_cmp (op_eqP hK (u64 hr)) (pt_ix hK (pt_var (pv 0)) pt_int (fun _ _ => rfl)) pt_str rfl) (tss_one (ts_ret hp (pt_res (tr_make fx.k_First ((ok_First___init__ fx D_First___init__).mono (Nat.le_refl _)) (Fill.all (D_First___init__.bindsN fun _ _ _ _ _ _ us hl => match us, hl with | [_, _], _ => rfl)) hr4 tk rfl fx.g_First (ta_cons (pt_ix hK (pt_var (pv 0)) pt_int (fun _ _ => rfl)) ta_nil))))) tss_nil)
    (tss_cons (ts_if (tt_cmp (op_eqP hK (u64 hr)) (pt_ix hK (pt_var (pv 0)) pt_int (fun _ _ => rfl)) pt_str rfl) (tss_one (ts_ret hp (pt_res (tr_make fx.k_Mode ((ok_Mode___init__ fx D_Mode___init__).mono (Nat.le_refl _)) (x4_Mode___init__ fx D_Mode___init__) hr6 tk rfl fx.g_Mode (ta_cons (pt_ix hK (pt_var (pv 0)) pt_int (fun _ _ => rfl)) (ta_cons (pt_ix hK (pt_var (pv 0)) pt_int (fun _ _ => rfl)) (ta_cons (pt_ix hK (pt_var (pv 0)) pt_int (fun _ _ => rfl)) ta_nil))))))) tss_nil)
    (tss_cons (ts_if (tt_cmp (op_eqP hK (u64 hr)) (pt_ix hK (pt_var (pv 0)) pt_int (fun _ _ => rfl)) pt_str rfl) (tss_one (ts_ret hp (pt_res (tr_make fx.k_Turn ((ok_Turn___init__ fx D_Turn___init__).mono (Nat.le_refl _)) (Fill.all (D_Turn___init__.bindsN fun _ _ _ _ _ _ us hl => match us, hl with | [_, _, _, _, _], _ => rfl)) hr6 tk rfl fx.g_Turn (ta_cons (pt_ix hK (pt_var (pv 0)) pt_int (fun _ _ => rfl)) (ta_cons (pt_ix hK (pt_var (pv 0)) pt_int (fun _ _ => rfl)) (ta_cons (pt_ix hK (pt_var (pv 0)) pt_int (fun _ _ => rfl)) (ta_cons (pt_ix hK (pt_var (pv 0)) pt_int (fun _ _ => rfl)) ta_nil)))))))) tss_nil)
    (tss_cons (ts_if (tt_cmp (op_eqP hK (u64 hr)) (pt_ix hK (pt_var (pv 0)) pt_int (fun _ _ => rfl)) pt_str rfl) (tss_one (ts_ret hp (pt_res (tr_make fx.k_Lead ((ok_Lead___init__ fx D_Lead___init__).mono (Nat.le_refl _)) (x6_Lead___init__ fx D_Lead___init__) hr5 tk rfl fx.g_Lead (ta_cons (pt_ix hK (pt_var (pv 0)) pt_int (fun _ _ => rfl)) (ta_cons (pt_ix hK (pt_var (pv 0)) pt_int (fun _ _ => rfl)) (ta_cons (pt_ix hK (pt_var (pv 0)) pt_int (fun _ _ => rfl)) (ta_cons (pt_ix hK (pt_var (pv 0)) pt_int (fun _ _ => rfl)) (ta_cons (pt_ix hK (pt_var (pv 0)) pt_int (fun _ _ => rfl)) ta_nil))))))))) tss_nil)
    (tss_one (ts_ret hp (pt_res (tr_make fx.k_House ((ok_House___init__ fx D_House___init__).mono (Nat.le_refl _)) (x4_House___init__ fx D_House___init__) hr6 tk rfl fx.g_House (ta_cons (pt_ix hK (pt_var (pv 0)) pt_int (fun _ _ => rfl)) (ta_cons (pt_ix hK (pt_var (pv 0)) pt_int (fun _ _ => rfl)) (ta_cons (pt_ix hK (pt_var (pv 0)) pt_int (fun _ _ => rfl)) ta_nil)))))))))))
def N_joined : List PySem.Str := ["words", "word"]
theorem sc_joined : FnScope N_joined ["words", "word"] (defScope (top 29)) := ⟨rfl, rfl, rfl, by decide +kernel, rfl, by decide +kernel, by decide +kernel⟩
theorem ok_joined (fx : Fx P K mg) {fd : FuncData} (D : FunD K "joined" "joined" (defArgs (top 29)) (defBody (top 29)) (defScope (top 29)) (([] : List He.Dv).map (He.Dv.v K)) (([] : List (PySem.Str × He.Dv)).map fun q => (q.1, q.2.v K)) (He.ga K "joined") fd) : FnG P w K mg base 2 (He.ga K "joined") fd ["words", "word"] (spF (tcN K cs) 2 Lib.F_joined) := by
  refine fn_tree D sc_joined (by decide) fun cdv A outer s H E r => ?_
  intro X hr hp tk po
  have hK : X.K = (tcN K cs).K := rfl
  have hc : X.calm = true := rfl
  have nd : X.N.Nodup := sc_joined.nd
  exact (tss_one (ts_ret hp (pt_if (tt_cmp op_isNP (pt_var (pv 0)) pt_non rfl) (pt_lst ta_nil) (pt_res (tr_met (T := "str") (id := "str.split") (name := "split") hK PySem.F.plainAttrs_str PySem.F.slot_str_split PySem.F.type_str_split mt_splitM (pt_res (tr_met (T := "str") (id := "str.join") (name := "join") hK PySem.F.plainAttrs_str PySem.F.slot_str_join PySem.F.type_str_join (mt_joinM hK) pt_str (ta_cons (pt_var (pv 0)) ta_nil))) (ta_cons (pt_js (.cons pt_str (.cons (pt_fmt (pt_var (pv 1))) (.cons pt_str .nil)))) ta_nil))))))
def N_lead_in : List PySem.Str := ["words", "mode", "place", "event", "middle", "then", "more", "sends"]
theorem sc_lead_in : FnScope N_lead_in ["words"] (defScope (top 31)) := ⟨rfl, rfl, rfl, by decide +kernel, rfl, by decide +kernel, by decide +kernel⟩
theorem ok_lead_in (fx : Fx P K mg) {fd : FuncData} (D : FunD K "lead_in" "lead_in" (defArgs (top 31)) (defBody (top 31)) (defScope (top 31)) (([] : List He.Dv).map (He.Dv.v K)) (([] : List (PySem.Str × He.Dv)).map fun q => (q.1, q.2.v K)) (He.ga K "lead_in") fd) : FnG P w K mg base 6 (He.ga K "lead_in") fd ["words"] (spF (tcN K cs) 1 (Lib.F_lead_in ks)) := by
  obtain ⟨fd_Lead___init__, D_Lead___init__⟩ := fx.d_Lead___init__
  obtain ⟨fd_joined, D_joined⟩ := fx.d_joined
  refine fn_tree D sc_lead_in (by decide) fun cdv A outer s H E r => ?_
  intro X hr hp tk po
  have hK : X.K = (tcN K cs).K := rfl
  have hc : X.calm = true := rfl
  have nd : X.N.Nodup := sc_lead_in.nd
  have hr2 : RoomG 2 X.A := hr.mono (by decide)
  have hr5 : RoomG 5 X.A := hr.mono (by decide)
  exact (tss_cons (ts_match (pt_var (pv 0)) (tm_seq (is := [1, 2, 3, 4, 5]) (xs := ["mode", "place", "event", "middle", "then"]) hK hc nd (.cons (.cons (.cons (.cons (.cons .nil))))) rfl rfl (capq (N := N_lead_in) (sc := defScope (top 31)) hp rfl rfl (by decide +kernel)) rfl (tss_one (ts_ret hp (pt_res (tr_make fx.k_Lead ((ok_Lead___init__ fx D_Lead___init__).mono (Nat.le_refl _)) (x5_Lead___init__ fx D_Lead___init__) hr5 tk rfl fx.g_Lead (ta_cons (pt_var (pv 1)) (ta_cons (pt_var (pv 2)) (ta_cons (pt_var (pv 3)) (ta_cons (pt_var (pv 5)) ta_nil)))))))) (tm_star (is := [1, 2, 3, 4, 5, 6]) (j := 7) (xs := ["mode", "place", "event", "middle", "then", "more"]) (y := "sends") hc nd (.cons (.cons (.cons (.cons (.cons (.cons .nil)))))) (by intro z; cases z) rfl (capq (N := N_lead_in) (sc := defScope (top 31)) hp rfl rfl (by decide +kernel)) rfl (tss_one (ts_ret hp (pt_res (tr_make fx.k_Lead ((ok_Lead___init__ fx D_Lead___init__).mono (Nat.le_refl _)) (x6_Lead___init__ fx D_Lead___init__) hr5 tk rfl fx.g_Lead (ta_cons (pt_var (pv 1)) (ta_cons (pt_var (pv 2)) (ta_cons (pt_var (pv 3)) (ta_cons (pt_var (pv 5)) (ta_cons (pt_res (tr_call ((ok_joined fx D_joined).mono (Nat.le_refl _)) (Fill.all (D_joined.bindsN fun _ _ _ _ _ _ us hl => match us, hl with | [_, _], _ => rfl)) hr2 tk rfl fx.g_joined D_joined.kp (ta_cons (pt_var (pv 7)) (ta_cons pt_str ta_nil)))) ta_nil))))))))) tm_nil)))
    (tss_one (ts_ret hp pt_non)))
def N_parted : List PySem.Str := ["words", "word", "at"]
theorem sc_parted : FnScope N_parted ["words", "word"] (defScope (top 28)) := ⟨rfl, rfl, rfl, by decide +kernel, rfl, by decide +kernel, by decide +kernel⟩
theorem ok_parted (fx : Fx P K mg) {fd : FuncData} (D : FunD K "parted" "parted" (defArgs (top 28)) (defBody (top 28)) (defScope (top 28)) (([] : List He.Dv).map (He.Dv.v K)) (([] : List (PySem.Str × He.Dv)).map fun q => (q.1, q.2.v K)) (He.ga K "parted") fd) : FnG P w K mg base 2 (He.ga K "parted") fd ["words", "word"] (spF (tcN K cs) 2 Lib.F_parted) := by
  refine fn_tree D sc_parted (by decide) fun cdv A outer s H E r => ?_
  intro X hr hp tk po
  have hK : X.K = (tcN K cs).K := rfl
  have hc : X.calm = true := rfl
  have nd : X.N.Nodup := sc_parted.nd
  exact (tss_cons (ts_if (tt_cmp (op_ninP hK (u65 hr)) (pt_var (pv 1)) (pt_var (pv 0)) rfl) (tss_one (ts_ret hp (pt_tup (ta_cons (pt_var (pv 0)) (ta_cons pt_non ta_nil))))) tss_nil)
    (tss_cons (ts_set (i := 2) nd rfl locOf (npin hp) (pt_res (tr_met (T := "list") (id := "list.index") (name := "index") hK PySem.F.plainAttrs_list PySem.F.slot_list_index PySem.F.type_list_index (mt_indexM hK (u65 hr)) (pt_var (pv 0)) (ta_cons (pt_var (pv 1)) ta_nil))))
    (tss_one (ts_ret hp (pt_tup (ta_cons (pt_res (tr_sl hK (pt_var (pv 0)) to_no (to_so (pt_var (pv 2))))) (ta_cons (pt_res (tr_sl hK (pt_var (pv 0)) (to_so (pt_res (tr_bin (op_addA hK) (pt_var (pv 2)) pt_int))) to_no)) ta_nil)))))))
def N_house_in : List PySem.Str := ["event", "words", "head", "deeds", "tests"]
theorem sc_house_in : FnScope N_house_in ["event", "words"] (defScope (top 32)) := ⟨rfl, rfl, rfl, by decide +kernel, rfl, by decide +kernel, by decide +kernel⟩
theorem ok_house_in (fx : Fx P K mg) {fd : FuncData} (D : FunD K "house_in" "house_in" (defArgs (top 32)) (defBody (top 32)) (defScope (top 32)) (([] : List He.Dv).map (He.Dv.v K)) (([] : List (PySem.Str × He.Dv)).map fun q => (q.1, q.2.v K)) (He.ga K "house_in") fd) : FnG P w K mg base 7 (He.ga K "house_in") fd ["event", "words"] (spF (tcN K cs) 2 (Lib.F_house_in ks)) := by
  obtain ⟨fd_parted, D_parted⟩ := fx.d_parted
  obtain ⟨fd_House___init__, D_House___init__⟩ := fx.d_House___init__
  obtain ⟨fd_joined, D_joined⟩ := fx.d_joined
  refine fn_tree D sc_house_in (by decide) fun cdv A outer s H E r => ?_
  intro X hr hp tk po
  have hK : X.K = (tcN K cs).K := rfl
  have hc : X.calm = true := rfl
  have nd : X.N.Nodup := sc_house_in.nd
  have hr2 : RoomG 2 X.A := hr.mono (by decide)
  have hr6 : RoomG 6 X.A := hr.mono (by decide)
  exact (tss_cons (ts_asg (pt_res (tr_call ((ok_parted fx D_parted).mono (Nat.le_refl _)) (Fill.all (D_parted.bindsN fun _ _ _ _ _ _ us hl => match us, hl with | [_, _], _ => rfl)) hr2 tk rfl fx.g_parted D_parted.kp (ta_cons (pt_var (pv 1)) (ta_cons pt_str ta_nil)))) (tg_tupL (n := 2) hK hc (tgs_cons (tg_name (i := 2) (pg_name (i := 2) nd rfl locOf) (npin hp)) (tgs_cons (tg_name (i := 3) (pg_name (i := 3) nd rfl locOf) (npin hp)) tgs_nil))))
    (tss_cons (ts_set (i := 4) nd rfl locOf (npin hp) (pt_if (tt_cmp (op_eqP hK (u64 hr)) (pt_res (tr_sl hK (pt_var (pv 2)) to_no (to_so pt_int))) (pt_lst (ta_cons pt_str ta_nil)) rfl) (pt_res (tr_sl hK (pt_var (pv 2)) (to_so pt_int) to_no)) pt_non))
    (tss_one (ts_ret hp (pt_res (tr_make fx.k_House ((ok_House___init__ fx D_House___init__).mono (Nat.le_refl _)) (x4_House___init__ fx D_House___init__) hr6 tk rfl fx.g_House (ta_cons (pt_var (pv 0)) (ta_cons (pt_res (tr_call ((ok_joined fx D_joined).mono (Nat.le_refl _)) (Fill.all (D_joined.bindsN fun _ _ _ _ _ _ us hl => match us, hl with | [_, _], _ => rfl)) hr2 tk rfl fx.g_joined D_joined.kp (ta_cons (pt_var (pv 4)) (ta_cons pt_str ta_nil)))) (ta_cons (pt_res (tr_call ((ok_joined fx D_joined).mono (Nat.le_refl _)) (Fill.all (D_joined.bindsN fun _ _ _ _ _ _ us hl => match us, hl with | [_, _], _ => rfl)) hr2 tk rfl fx.g_joined D_joined.kp (ta_cons (pt_var (pv 3)) (ta_cons pt_str ta_nil)))) ta_nil)))))))))
def N_row_in : List PySem.Str := ["words", "head", "rest"]
theorem sc_row_in : FnScope N_row_in ["words"] (defScope (top 30)) := ⟨rfl, rfl, rfl, by decide +kernel, rfl, by decide +kernel, by decide +kernel⟩
theorem ok_row_in (fx : Fx P K mg) {fd : FuncData} (D : FunD K "row_in" "row_in" (defArgs (top 30)) (defBody (top 30)) (defScope (top 30)) (([] : List He.Dv).map (He.Dv.v K)) (([] : List (PySem.Str × He.Dv)).map fun q => (q.1, q.2.v K)) (He.ga K "row_in") fd) : FnG P w K mg base 8 (He.ga K "row_in") fd ["words"] (spF (tcN K cs) 1 (Lib.F_row_in ks)) := by
  obtain ⟨fd_First___init__, D_First___init__⟩ := fx.d_First___init__
  obtain ⟨fd_Mode___init__, D_Mode___init__⟩ := fx.d_Mode___init__
  obtain ⟨fd_Turn___init__, D_Turn___init__⟩ := fx.d_Turn___init__
  obtain ⟨fd_lead_in, D_lead_in⟩ := fx.d_lead_in
  obtain ⟨fd_house_in, D_house_in⟩ := fx.d_house_in
  refine fn_tree D sc_row_in (by decide) fun cdv A outer s H E r => ?_
  intro X hr hp tk po
  have hK : X.K = (tcN K cs).K := rfl
  have hc : X.calm = true := rfl
  have nd : X.N.Nodup := sc_row_in.nd
  have hr4 : RoomG 4 X.A := hr.mono (by decide)
  have hr6 : RoomG 6 X.A := hr.mono (by decide)
  have hr7 : RoomG 7 X.A := hr.mono (by decide)
  exact (tss_cons (ts_par (i := 1) (j := 2) hc nd rfl rfl (by decide) rfl rfl (npin hp) (npin hp) (tb_cons (tr_tree (pt_ix hK (pt_var (pv 0)) pt_int (fun _ _ => rfl))) (tb_cons (tr_tree (pt_res (tr_sl hK (pt_var (pv 0)) (to_so pt_int) to_no))) tb_nil)))
    (tss_cons (ts_if (tt_w (tw_and (tt_cmp (op_eqP hK (u64 hr)) (pt_var (pv 1)) pt_str rfl) (tw_and1 (tt_cmp (op_eqP hK (u64 hr)) (pt_res (tr_bui (x := "len") (bu_len hK) rfl fx.f_len boot_len (ta_cons (pt_var (pv 2)) ta_nil))) pt_int rfl)))) (tss_one (ts_ret hp (pt_res (tr_make fx.k_First ((ok_First___init__ fx D_First___init__).mono (Nat.le_refl _)) (Fill.all (D_First___init__.bindsN fun _ _ _ _ _ _ us hl => match us, hl with | [_, _], _ => rfl)) hr4 tk rfl fx.g_First (ta_cons (pt_ix hK (pt_var (pv 2)) pt_int (fun _ _ => rfl)) ta_nil))))) tss_nil)
    (tss_cons (ts_if (tt_w (tw_and (tt_cmp (op_eqP hK (u64 hr)) (pt_var (pv 1)) pt_str rfl) (tw_and1 (tt_cmp op_gtP (pt_res (tr_bui (x := "len") (bu_len hK) rfl fx.f_len boot_len (ta_cons (pt_var (pv 2)) ta_nil))) pt_int rfl)))) (tss_one (ts_ret hp (pt_res (tr_make fx.k_Mode ((ok_Mode___init__ fx D_Mode___init__).mono (Nat.le_refl _)) (x4_Mode___init__ fx D_Mode___init__) hr6 tk rfl fx.g_Mode (ta_cons (pt_ix hK (pt_var (pv 2)) pt_int (fun _ _ => rfl)) (ta_cons (pt_if (tt_cmp op_gtP (pt_res (tr_bui (x := "len") (bu_len hK) rfl fx.f_len boot_len (ta_cons (pt_var (pv 2)) ta_nil))) pt_int rfl) (pt_ix hK (pt_var (pv 2)) pt_int (fun _ _ => rfl)) pt_non) (ta_cons (pt_res (tr_sl hK (pt_var (pv 2)) (to_so pt_int) to_no)) ta_nil))))))) tss_nil)
    (tss_cons (ts_if (tt_w (tw_and (tt_cmp (op_eqP hK (u64 hr)) (pt_var (pv 1)) pt_str rfl) (tw_and1 (tt_cmp op_gtP (pt_res (tr_bui (x := "len") (bu_len hK) rfl fx.f_len boot_len (ta_cons (pt_var (pv 2)) ta_nil))) pt_int rfl)))) (tss_one (ts_ret hp (pt_res (tr_make fx.k_Turn ((ok_Turn___init__ fx D_Turn___init__).mono (Nat.le_refl _)) (Fill.all (D_Turn___init__.bindsN fun _ _ _ _ _ _ us hl => match us, hl with | [_, _, _, _, _], _ => rfl)) hr6 tk rfl fx.g_Turn (ta_cons (pt_ix hK (pt_var (pv 2)) pt_int (fun _ _ => rfl)) (ta_cons (pt_ix hK (pt_var (pv 2)) pt_int (fun _ _ => rfl)) (ta_cons (pt_res (tr_sl hK (pt_var (pv 2)) (to_so pt_int) (to_so (pt_un un_negP pt_int)))) (ta_cons (pt_ix hK (pt_var (pv 2)) (pt_un un_negP pt_int) (fun _ _ => rfl)) ta_nil)))))))) tss_nil)
    (tss_cons (ts_if (tt_cmp (op_eqP hK (u64 hr)) (pt_var (pv 1)) pt_str rfl) (tss_one (ts_ret hp (pt_res (tr_call ((ok_lead_in fx D_lead_in).mono (Nat.le_refl _)) (Fill.all (D_lead_in.bindsN fun _ _ _ _ _ _ us hl => match us, hl with | [_], _ => rfl)) hr6 tk rfl fx.g_lead_in D_lead_in.kp (ta_cons (pt_var (pv 2)) ta_nil))))) tss_nil)
    (tss_one (ts_ret hp (pt_if (tt_w (tw_and (tt_cmp (op_eqP hK (u64 hr)) (pt_var (pv 1)) pt_str rfl) (tw_and1 (tt_cmp op_gtP (pt_res (tr_bui (x := "len") (bu_len hK) rfl fx.f_len boot_len (ta_cons (pt_var (pv 2)) ta_nil))) pt_int rfl)))) (pt_res (tr_call ((ok_house_in fx D_house_in).mono (Nat.le_refl _)) (Fill.all (D_house_in.bindsN fun _ _ _ _ _ _ us hl => match us, hl with | [_, _], _ => rfl)) hr7 tk rfl fx.g_house_in D_house_in.kp (ta_cons (pt_ix hK (pt_var (pv 2)) pt_int (fun _ _ => rfl)) (ta_cons (pt_res (tr_sl hK (pt_var (pv 2)) (to_so pt_int) to_no)) ta_nil)))) pt_non))))))))
def N_House___str__ : List PySem.Str := ["self", "asked", "done"]
theorem sc_House___str__ : FnScope N_House___str__ ["self"] (defScope (inClass (top 27) 1)) := ⟨rfl, rfl, rfl, by decide +kernel, rfl, by decide +kernel, by decide +kernel⟩
theorem ok_House___str__ (fx : Fx P K mg) {fd : FuncData} (D : FunD K "__str__" "House.__str__" (defArgs (inClass (top 27) 1)) (defBody (inClass (top 27) 1)) (defScope (inClass (top 27) 1)) (([] : List He.Dv).map (He.Dv.v K)) (([] : List (PySem.Str × He.Dv)).map fun q => (q.1, q.2.v K)) (He.ma K (He.ga K "House") "__str__") fd) : FnG P w K mg base 2 (He.ma K (He.ga K "House") "__str__") fd ["self"] (spF (tcN K cs) 1 (Lib.F_House___str__ ks)) := by
  refine fn_tree D sc_House___str__ (by decide) fun cdv A outer s H E r => ?_
  intro X hr hp tk po
  have hK : X.K = (tcN K cs).K := rfl
  have hc : X.calm = true := rfl
  have nd : X.N.Nodup := sc_House___str__.nd
  exact (tss_cons (ts_set (i := 1) nd rfl locOf (npin hp) (pt_if (tt_cmp (op_eqP hK (u64 hr)) (pt_fl (flAll (.cons (fun _ => ⟨fx.c_House, fx.n_House__tests⟩) .nil)) (pt_var (pv 0))) (pt_tup ta_nil) rfl) (pt_lst ta_nil) (pt_lst (ta_cons pt_str (ta_cons (pt_res (tr_met (T := "str") (id := "str.join") (name := "join") hK PySem.F.plainAttrs_str PySem.F.slot_str_join PySem.F.type_str_join (mt_joinM hK) pt_str (ta_cons (pt_fl (flAll (.cons (fun _ => ⟨fx.c_House, fx.n_House__tests⟩) .nil)) (pt_var (pv 0))) ta_nil))) ta_nil)))))
    (tss_cons (ts_set (i := 2) nd rfl locOf (npin hp) (pt_if (tt_cmp (op_eqP hK (u64 hr)) (pt_fl (flAll (.cons (fun _ => ⟨fx.c_House, fx.n_House__deeds⟩) .nil)) (pt_var (pv 0))) (pt_tup ta_nil) rfl) (pt_lst ta_nil) (pt_lst (ta_cons pt_str (ta_cons (pt_res (tr_met (T := "str") (id := "str.join") (name := "join") hK PySem.F.plainAttrs_str PySem.F.slot_str_join PySem.F.type_str_join (mt_joinM hK) pt_str (ta_cons (pt_fl (flAll (.cons (fun _ => ⟨fx.c_House, fx.n_House__deeds⟩) .nil)) (pt_var (pv 0))) ta_nil))) ta_nil)))))
    (tss_one (ts_ret hp (pt_res (tr_met (T := "str") (id := "str.join") (name := "join") hK PySem.F.plainAttrs_str PySem.F.slot_str_join PySem.F.type_str_join (mt_joinM hK) pt_str (ta_cons (pt_lst (ta_cons pt_str (ta_cons (pt_fl (flAll (.cons (fun _ => ⟨fx.c_Lead, fx.n_Lead__event⟩) (.cons (fun _ => ⟨fx.c_House, fx.n_House__event⟩) (.cons (fun z => absurd z (by decide)) .nil)))) (pt_var (pv 0))) (ta_star hK (pt_var (pv 1)) (ta_star hK (pt_var (pv 2)) ta_nil))))) ta_nil)))))))
def N_Lead___str__ : List PySem.Str := ["self", "sent"]
theorem sc_Lead___str__ : FnScope N_Lead___str__ ["self"] (defScope (inClass (top 26) 1)) := ⟨rfl, rfl, rfl, by decide +kernel, rfl, by decide +kernel, by decide +kernel⟩
theorem ok_Lead___str__ (fx : Fx P K mg) {fd : FuncData} (D : FunD K "__str__" "Lead.__str__" (defArgs (inClass (top 26) 1)) (defBody (inClass (top 26) 1)) (defScope (inClass (top 26) 1)) (([] : List He.Dv).map (He.Dv.v K)) (([] : List (PySem.Str × He.Dv)).map fun q => (q.1, q.2.v K)) (He.ma K (He.ga K "Lead") "__str__") fd) : FnG P w K mg base 2 (He.ma K (He.ga K "Lead") "__str__") fd ["self"] (spF (tcN K cs) 1 (Lib.F_Lead___str__ ks)) := by
  refine fn_tree D sc_Lead___str__ (by decide) fun cdv A outer s H E r => ?_
  intro X hr hp tk po
  have hK : X.K = (tcN K cs).K := rfl
  have hc : X.calm = true := rfl
  have nd : X.N.Nodup := sc_Lead___str__.nd
  exact (tss_cons (ts_set (i := 1) nd rfl locOf (npin hp) (pt_if (tt_cmp (op_eqP hK (u64 hr)) (pt_fl (flAll (.cons (fun _ => ⟨fx.c_Lead, fx.n_Lead__sends⟩) .nil)) (pt_var (pv 0))) (pt_tup ta_nil) rfl) (pt_lst ta_nil) (pt_lst (ta_cons pt_str (ta_cons (pt_res (tr_met (T := "str") (id := "str.join") (name := "join") hK PySem.F.plainAttrs_str PySem.F.slot_str_join PySem.F.type_str_join (mt_joinM hK) pt_str (ta_cons (pt_fl (flAll (.cons (fun _ => ⟨fx.c_Lead, fx.n_Lead__sends⟩) .nil)) (pt_var (pv 0))) ta_nil))) ta_nil)))))
    (tss_one (ts_ret hp (pt_res (tr_met (T := "str") (id := "str.join") (name := "join") hK PySem.F.plainAttrs_str PySem.F.slot_str_join PySem.F.type_str_join (mt_joinM hK) pt_str (ta_cons (pt_lst (ta_cons pt_str (ta_cons (pt_fl (flAll (.cons (fun _ => ⟨fx.c_Turn, fx.n_Turn__mode⟩) (.cons (fun _ => ⟨fx.c_Lead, fx.n_Lead__mode⟩) (.cons (fun z => absurd z (by decide)) (.cons (fun z => absurd z (by decide)) .nil))))) (pt_var (pv 0))) (ta_cons (pt_fl (flAll (.cons (fun _ => ⟨fx.c_First, fx.n_First__place⟩) (.cons (fun _ => ⟨fx.c_Lead, fx.n_Lead__place⟩) .nil))) (pt_var (pv 0))) (ta_cons (pt_fl (flAll (.cons (fun _ => ⟨fx.c_Lead, fx.n_Lead__event⟩) (.cons (fun _ => ⟨fx.c_House, fx.n_House__event⟩) (.cons (fun z => absurd z (by decide)) .nil)))) (pt_var (pv 0))) (ta_cons pt_str (ta_cons (pt_fl (flAll (.cons (fun _ => ⟨fx.c_Turn, fx.n_Turn__then⟩) (.cons (fun _ => ⟨fx.c_Lead, fx.n_Lead__then⟩) .nil))) (pt_var (pv 0))) (ta_star hK (pt_var (pv 1)) ta_nil)))))))) ta_nil))))))
def N_Turn___str__ : List PySem.Str := ["self"]
theorem sc_Turn___str__ : FnScope N_Turn___str__ ["self"] (defScope (inClass (top 25) 1)) := ⟨rfl, rfl, rfl, by decide +kernel, rfl, by decide +kernel, by decide +kernel⟩
theorem ok_Turn___str__ (fx : Fx P K mg) {fd : FuncData} (D : FunD K "__str__" "Turn.__str__" (defArgs (inClass (top 25) 1)) (defBody (inClass (top 25) 1)) (defScope (inClass (top 25) 1)) (([] : List He.Dv).map (He.Dv.v K)) (([] : List (PySem.Str × He.Dv)).map fun q => (q.1, q.2.v K)) (He.ma K (He.ga K "Turn") "__str__") fd) : FnG P w K mg base 2 (He.ma K (He.ga K "Turn") "__str__") fd ["self"] (spF (tcN K cs) 1 (Lib.F_Turn___str__ ks)) := by
  refine fn_tree D sc_Turn___str__ (by decide) fun cdv A outer s H E r => ?_
  intro X hr hp tk po
  have hK : X.K = (tcN K cs).K := rfl
  have hc : X.calm = true := rfl
  have nd : X.N.Nodup := sc_Turn___str__.nd
  exact (tss_one (ts_ret hp (pt_res (tr_met (T := "str") (id := "str.join") (name := "join") hK PySem.F.plainAttrs_str PySem.F.slot_str_join PySem.F.type_str_join (mt_joinM hK) pt_str (ta_cons (pt_lst (ta_cons pt_str (ta_cons (pt_fl (flAll (.cons (fun _ => ⟨fx.c_Turn, fx.n_Turn__mode⟩) (.cons (fun _ => ⟨fx.c_Lead, fx.n_Lead__mode⟩) (.cons (fun z => absurd z (by decide)) (.cons (fun z => absurd z (by decide)) .nil))))) (pt_var (pv 0))) (ta_cons (pt_fl (flAll (.cons (fun _ => ⟨fx.c_Turn, fx.n_Turn__way⟩) .nil)) (pt_var (pv 0))) (ta_star hK (pt_fl (flAll (.cons (fun _ => ⟨fx.c_Turn, fx.n_Turn__places⟩) (.cons (fun z => absurd z (by decide)) .nil))) (pt_var (pv 0))) (ta_cons pt_str (ta_cons (pt_fl (flAll (.cons (fun _ => ⟨fx.c_Turn, fx.n_Turn__then⟩) (.cons (fun _ => ⟨fx.c_Lead, fx.n_Lead__then⟩) .nil))) (pt_var (pv 0))) ta_nil))))))) ta_nil)))))
def N_Mode___str__ : List PySem.Str := ["self", "said"]
theorem sc_Mode___str__ : FnScope N_Mode___str__ ["self"] (defScope (inClass (top 24) 1)) := ⟨rfl, rfl, rfl, by decide +kernel, rfl, by decide +kernel, by decide +kernel⟩
theorem ok_Mode___str__ (fx : Fx P K mg) {fd : FuncData} (D : FunD K "__str__" "Mode.__str__" (defArgs (inClass (top 24) 1)) (defBody (inClass (top 24) 1)) (defScope (inClass (top 24) 1)) (([] : List He.Dv).map (He.Dv.v K)) (([] : List (PySem.Str × He.Dv)).map fun q => (q.1, q.2.v K)) (He.ma K (He.ga K "Mode") "__str__") fd) : FnG P w K mg base 2 (He.ma K (He.ga K "Mode") "__str__") fd ["self"] (spF (tcN K cs) 1 (Lib.F_Mode___str__ ks)) := by
  refine fn_tree D sc_Mode___str__ (by decide) fun cdv A outer s H E r => ?_
  intro X hr hp tk po
  have hK : X.K = (tcN K cs).K := rfl
  have hc : X.calm = true := rfl
  have nd : X.N.Nodup := sc_Mode___str__.nd
  exact (tss_cons (ts_set (i := 1) nd rfl locOf (npin hp) (pt_if (tt_cmp op_isNP (pt_fl (flAll (.cons (fun _ => ⟨fx.c_Mode, fx.n_Mode__promise⟩) .nil)) (pt_var (pv 0))) pt_non rfl) (pt_lst ta_nil) (pt_lst (ta_cons (pt_fl (flAll (.cons (fun _ => ⟨fx.c_Mode, fx.n_Mode__promise⟩) .nil)) (pt_var (pv 0))) ta_nil))))
    (tss_one (ts_ret hp (pt_res (tr_met (T := "str") (id := "str.join") (name := "join") hK PySem.F.plainAttrs_str PySem.F.slot_str_join PySem.F.type_str_join (mt_joinM hK) pt_str (ta_cons (pt_lst (ta_cons pt_str (ta_cons (pt_fl (flAll (.cons (fun _ => ⟨fx.c_Mode, fx.n_Mode__name⟩) (.cons (fun z => absurd z (by decide)) .nil))) (pt_var (pv 0))) (ta_star hK (pt_var (pv 1)) (ta_star hK (pt_fl (flAll (.cons (fun _ => ⟨fx.c_Mode, fx.n_Mode__ends⟩) .nil)) (pt_var (pv 0))) ta_nil))))) ta_nil))))))
def N_First___str__ : List PySem.Str := ["self"]
theorem sc_First___str__ : FnScope N_First___str__ ["self"] (defScope (inClass (top 23) 1)) := ⟨rfl, rfl, rfl, by decide +kernel, rfl, by decide +kernel, by decide +kernel⟩
theorem ok_First___str__ (fx : Fx P K mg) {fd : FuncData} (D : FunD K "__str__" "First.__str__" (defArgs (inClass (top 23) 1)) (defBody (inClass (top 23) 1)) (defScope (inClass (top 23) 1)) (([] : List He.Dv).map (He.Dv.v K)) (([] : List (PySem.Str × He.Dv)).map fun q => (q.1, q.2.v K)) (He.ma K (He.ga K "First") "__str__") fd) : FnG P w K mg base 2 (He.ma K (He.ga K "First") "__str__") fd ["self"] (spF (tcN K cs) 1 (Lib.F_First___str__ ks)) := by
  refine fn_tree D sc_First___str__ (by decide) fun cdv A outer s H E r => ?_
  intro X hr hp tk po
  have hK : X.K = (tcN K cs).K := rfl
  have hc : X.calm = true := rfl
  have nd : X.N.Nodup := sc_First___str__.nd
  exact (tss_one (ts_ret hp (pt_js (.cons pt_str (.cons (pt_fmt (pt_fl (flAll (.cons (fun _ => ⟨fx.c_First, fx.n_First__place⟩) (.cons (fun _ => ⟨fx.c_Lead, fx.n_Lead__place⟩) .nil))) (pt_var (pv 0)))) .nil)))))
def N_Row_read : List PySem.Str := ["cls", "text", "words", "found", "e"]
theorem sc_Row_read : FnScope N_Row_read ["cls", "text"] (defScope (inClass (top 22) 0)) := ⟨rfl, rfl, rfl, by decide +kernel, rfl, by decide +kernel, by decide +kernel⟩
theorem ok_Row_read (fx : Fx P K mg) {fd : FuncData} (D : FunD K "read" "Row.read" (defArgs (inClass (top 22) 0)) (defBody (inClass (top 22) 0)) (defScope (inClass (top 22) 0)) (([] : List He.Dv).map (He.Dv.v K)) (([] : List (PySem.Str × He.Dv)).map fun q => (q.1, q.2.v K)) (He5.wf K (He.ga K "Row") "classmethod" "read") fd) : FnG P w K mg base 9 (He5.wf K (He.ga K "Row") "classmethod" "read") fd ["cls", "text"] (spF (tcN K cs) 2 (Lib.F_Row_read ks)) := by
  obtain ⟨fd_row_in, D_row_in⟩ := fx.d_row_in
  obtain ⟨fd_House___str__, D_House___str__⟩ := fx.d_House___str__
  obtain ⟨fd_Lead___str__, D_Lead___str__⟩ := fx.d_Lead___str__
  obtain ⟨fd_Turn___str__, D_Turn___str__⟩ := fx.d_Turn___str__
  obtain ⟨fd_Mode___str__, D_Mode___str__⟩ := fx.d_Mode___str__
  obtain ⟨fd_First___str__, D_First___str__⟩ := fx.d_First___str__
  obtain ⟨cd_InvalidText, xc_InvalidText⟩ := fx.xc_InvalidText.x
  refine fn_tree D sc_Row_read (by decide) fun cdv A outer s H E r => ?_
  intro X hr hp tk po
  have hK : X.K = (tcN K cs).K := rfl
  have hc : X.calm = true := rfl
  have nd : X.N.Nodup := sc_Row_read.nd
  have hr4 : RoomG 4 X.A := hr.mono (by decide)
  have hr8 : RoomG 8 X.A := hr.mono (by decide)
  exact (tss_cons (ts_set (i := 2) nd rfl locOf (npin hp) (pt_res (tr_met (T := "str") (id := "str.split") (name := "split") hK PySem.F.plainAttrs_str PySem.F.slot_str_split PySem.F.type_str_split mt_splitM (pt_var (pv 1)) (ta_cons pt_str ta_nil))))
    (tss_cons (ts_try (i := 4) (kx := 20) rfl rfl nd rfl rfl ⟨rfl, by decide +kernel, .inl fx.g_InvalidRow⟩ tk hp rfl rfl (exmB_ok fx.em_20_20) (fun W' pn' xe tk po => (tss_one (ts_set (i := 3) nd rfl locOf (npin hp) (pt_res (tr_call ((ok_row_in fx D_row_in).mono (Nat.le_refl _)) (Fill.all (D_row_in.bindsN fun _ _ _ _ _ _ us hl => match us, hl with | [_], _ => rfl)) hr8 tk rfl fx.g_row_in D_row_in.kp (ta_cons (pt_var (pv 2)) ta_nil)))))) (fun a oe cls d pn' y r' hz hf hx hm hp hkk => (tss_one ts_bad)))
    (tss_cons (ts_if (tt_w (tw_or (tt_cmp op_isNP (pt_var (pv 3)) pt_non rfl) (tw_or1 (tt_cmp (op_neP hK (u64 hr)) (pt_res (tr_alt (tr_strOwn (own_of fx.m_First____str__) ((ok_First___str__ fx D_First___str__).mono (Nat.le_refl _)) (D_First___str__.bindsN fun _ _ _ _ _ _ us hl => match us, hl with | [_], _ => rfl) hr4 tk rfl fx.f_str (pt_var (pv 3))) (tr_alt (tr_strOwn (own_of fx.m_Mode____str__) ((ok_Mode___str__ fx D_Mode___str__).mono (Nat.le_refl _)) (D_Mode___str__.bindsN fun _ _ _ _ _ _ us hl => match us, hl with | [_], _ => rfl) hr4 tk rfl fx.f_str (pt_var (pv 3))) (tr_alt (tr_strOwn (own_of fx.m_Turn____str__) ((ok_Turn___str__ fx D_Turn___str__).mono (Nat.le_refl _)) (D_Turn___str__.bindsN fun _ _ _ _ _ _ us hl => match us, hl with | [_], _ => rfl) hr4 tk rfl fx.f_str (pt_var (pv 3))) (tr_alt (tr_strOwn (own_of fx.m_Lead____str__) ((ok_Lead___str__ fx D_Lead___str__).mono (Nat.le_refl _)) (D_Lead___str__.bindsN fun _ _ _ _ _ _ us hl => match us, hl with | [_], _ => rfl) hr4 tk rfl fx.f_str (pt_var (pv 3))) (tr_strOwn (own_of fx.m_House____str__) ((ok_House___str__ fx D_House___str__).mono (Nat.le_refl _)) (D_House___str__.bindsN fun _ _ _ _ _ _ us hl => match us, hl with | [_], _ => rfl) hr4 tk rfl fx.f_str (pt_var (pv 3)))))))) (pt_var (pv 1)) rfl)))) (tss_one (ts_raise xc_InvalidText fx.xc_InvalidText.k1 fx.xc_InvalidText.k2 fx.xc_InvalidText.k3 fx.xc_InvalidText.k4 (hr.mono (by omega)) hc tk rfl fx.g_InvalidText pt_int)) tss_nil)
    (tss_one (ts_ret hp (pt_var (pv 3)))))))
def N_Row___eq__ : List PySem.Str := ["self", "other"]
theorem sc_Row___eq__ : FnScope N_Row___eq__ ["self", "other"] (defScope (inClass (top 22) 2)) := ⟨rfl, rfl, rfl, by decide +kernel, rfl, by decide +kernel, by decide +kernel⟩
theorem ok_Row___eq__ (fx : Fx P K mg) {fd : FuncData} (D : FunD K "__eq__" "Row.__eq__" (defArgs (inClass (top 22) 2)) (defBody (inClass (top 22) 2)) (defScope (inClass (top 22) 2)) (([] : List He.Dv).map (He.Dv.v K)) (([] : List (PySem.Str × He.Dv)).map fun q => (q.1, q.2.v K)) (He.ma K (He.ga K "Row") "__eq__") fd) : FnG P w K mg base 5 (He.ma K (He.ga K "Row") "__eq__") fd ["self", "other"] (spF (tcN K cs) 2 (Lib.F_Row___eq__ ks)) := by
  obtain ⟨fd_House___str__, D_House___str__⟩ := fx.d_House___str__
  obtain ⟨fd_Lead___str__, D_Lead___str__⟩ := fx.d_Lead___str__
  obtain ⟨fd_Turn___str__, D_Turn___str__⟩ := fx.d_Turn___str__
  obtain ⟨fd_Mode___str__, D_Mode___str__⟩ := fx.d_Mode___str__
  obtain ⟨fd_First___str__, D_First___str__⟩ := fx.d_First___str__
  refine fn_tree D sc_Row___eq__ (by decide) fun cdv A outer s H E r => ?_
  intro X hr hp tk po
  have hK : X.K = (tcN K cs).K := rfl
  have hc : X.calm = true := rfl
  have nd : X.N.Nodup := sc_Row___eq__.nd
  have hr4 : RoomG 4 X.A := hr.mono (by decide)
  exact (tss_one (ts_ret hp (pt_and hK (pt_isi hK (AllP.all (.cons fx.q_Row (.cons fx.q_First (.cons fx.q_Mode (.cons fx.q_Turn (.cons fx.q_Lead (.cons fx.q_House .nil))))))) (Tgt.cls (tcN K cs) (.own 0)) (fun d b h1 h2 => kitOne_of (isiB_ok fx.is_Row d b h1 h2)) rfl fx.f_isinstance (pt_var (pv 1)) (pe_glob (v := .ref (He.ga K "Row")) (u := .ref (He.ga K "Row")) (by rfl) fx.g_Row rfl)) (pt_one (pt_cmp (op_eqP hK (u64 hr)) (pt_res (tr_alt (tr_strOwn (own_of fx.m_First____str__) ((ok_First___str__ fx D_First___str__).mono (Nat.le_refl _)) (D_First___str__.bindsN fun _ _ _ _ _ _ us hl => match us, hl with | [_], _ => rfl) hr4 tk rfl fx.f_str (pt_var (pv 0))) (tr_alt (tr_strOwn (own_of fx.m_Mode____str__) ((ok_Mode___str__ fx D_Mode___str__).mono (Nat.le_refl _)) (D_Mode___str__.bindsN fun _ _ _ _ _ _ us hl => match us, hl with | [_], _ => rfl) hr4 tk rfl fx.f_str (pt_var (pv 0))) (tr_alt (tr_strOwn (own_of fx.m_Turn____str__) ((ok_Turn___str__ fx D_Turn___str__).mono (Nat.le_refl _)) (D_Turn___str__.bindsN fun _ _ _ _ _ _ us hl => match us, hl with | [_], _ => rfl) hr4 tk rfl fx.f_str (pt_var (pv 0))) (tr_alt (tr_strOwn (own_of fx.m_Lead____str__) ((ok_Lead___str__ fx D_Lead___str__).mono (Nat.le_refl _)) (D_Lead___str__.bindsN fun _ _ _ _ _ _ us hl => match us, hl with | [_], _ => rfl) hr4 tk rfl fx.f_str (pt_var (pv 0))) (tr_strOwn (own_of fx.m_House____str__) ((ok_House___str__ fx D_House___str__).mono (Nat.le_refl _)) (D_House___str__.bindsN fun _ _ _ _ _ _ us hl => match us, hl with | [_], _ => rfl) hr4 tk rfl fx.f_str (pt_var (pv 0)))))))) (pt_res (tr_alt (tr_strOwn (own_of fx.m_First____str__) ((ok_First___str__ fx D_First___str__).mono (Nat.le_refl _)) (D_First___str__.bindsN fun _ _ _ _ _ _ us hl => match us, hl with | [_], _ => rfl) hr4 tk rfl fx.f_str (pt_var (pv 1))) (tr_alt (tr_strOwn (own_of fx.m_Mode____str__) ((ok_Mode___str__ fx D_Mode___str__).mono (Nat.le_refl _)) (D_Mode___str__.bindsN fun _ _ _ _ _ _ us hl => match us, hl with | [_], _ => rfl) hr4 tk rfl fx.f_str (pt_var (pv 1))) (tr_alt (tr_strOwn (own_of fx.m_Turn____str__) ((ok_Turn___str__ fx D_Turn___str__).mono (Nat.le_refl _)) (D_Turn___str__.bindsN fun _ _ _ _ _ _ us hl => match us, hl with | [_], _ => rfl) hr4 tk rfl fx.f_str (pt_var (pv 1))) (tr_alt (tr_strOwn (own_of fx.m_Lead____str__) ((ok_Lead___str__ fx D_Lead___str__).mono (Nat.le_refl _)) (D_Lead___str__.bindsN fun _ _ _ _ _ _ us hl => match us, hl with | [_], _ => rfl) hr4 tk rfl fx.f_str (pt_var (pv 1))) (tr_strOwn (own_of fx.m_House____str__) ((ok_House___str__ fx D_House___str__).mono (Nat.le_refl _)) (D_House___str__.bindsN fun _ _ _ _ _ _ us hl => match us, hl with | [_], _ => rfl) hr4 tk rfl fx.f_str (pt_var (pv 1)))))))) rfl)))))
def N__law_sort : List PySem.Str := ["_law_made_here", "_law_found"]
theorem sc__law_sort : FnScope N__law_sort ["_law_made_here"] (defScope (top 46)) := ⟨rfl, rfl, rfl, by decide +kernel, rfl, by decide +kernel, by decide +kernel⟩
theorem ok__law_sort (fx : Fx P K mg) {fd : FuncData} (D : FunD K "_law_sort" "_law_sort" (defArgs (top 46)) (defBody (top 46)) (defScope (top 46)) (([] : List He.Dv).map (He.Dv.v K)) (([] : List (PySem.Str × He.Dv)).map fun q => (q.1, q.2.v K)) (He.ga K "_law_sort") fd) : FnG P w K mg base 2 (He.ga K "_law_sort") fd ["_law_made_here"] (spF (tcN K cs) 1 (Lib.F_h_sort ks)) := by
  refine fn_tree D sc__law_sort (by decide) fun cdv A outer s H E r => ?_
  intro X hr hp tk po
  have hK : X.K = (tcN K cs).K := rfl
  have hc : X.calm = true := rfl
  have nd : X.N.Nodup := sc__law_sort.nd
  exact (tss_cons (ts_set (i := 1) nd rfl locOf (npin hp) (pt_lst (ta_cons (pt_isi hK (AllP.all (.cons fx.q_Row (.cons fx.q_First (.cons fx.q_Mode (.cons fx.q_Turn (.cons fx.q_Lead (.cons fx.q_House .nil))))))) (Tgt.cls (tcN K cs) (.own 1)) (fun d b h1 h2 => kitOne_of (isiB_ok fx.is_First d b h1 h2)) rfl fx.f_isinstance (pt_var (pv 0)) (pe_glob (v := .ref (He.ga K "First")) (u := .ref (He.ga K "First")) (by rfl) fx.g_First rfl)) (ta_cons (pt_isi hK (AllP.all (.cons fx.q_Row (.cons fx.q_First (.cons fx.q_Mode (.cons fx.q_Turn (.cons fx.q_Lead (.cons fx.q_House .nil))))))) (Tgt.cls (tcN K cs) (.own 2)) (fun d b h1 h2 => kitOne_of (isiB_ok fx.is_Mode d b h1 h2)) rfl fx.f_isinstance (pt_var (pv 0)) (pe_glob (v := .ref (He.ga K "Mode")) (u := .ref (He.ga K "Mode")) (by rfl) fx.g_Mode rfl)) (ta_cons (pt_isi hK (AllP.all (.cons fx.q_Row (.cons fx.q_First (.cons fx.q_Mode (.cons fx.q_Turn (.cons fx.q_Lead (.cons fx.q_House .nil))))))) (Tgt.cls (tcN K cs) (.own 3)) (fun d b h1 h2 => kitOne_of (isiB_ok fx.is_Turn d b h1 h2)) rfl fx.f_isinstance (pt_var (pv 0)) (pe_glob (v := .ref (He.ga K "Turn")) (u := .ref (He.ga K "Turn")) (by rfl) fx.g_Turn rfl)) (ta_cons (pt_isi hK (AllP.all (.cons fx.q_Row (.cons fx.q_First (.cons fx.q_Mode (.cons fx.q_Turn (.cons fx.q_Lead (.cons fx.q_House .nil))))))) (Tgt.cls (tcN K cs) (.own 4)) (fun d b h1 h2 => kitOne_of (isiB_ok fx.is_Lead d b h1 h2)) rfl fx.f_isinstance (pt_var (pv 0)) (pe_glob (v := .ref (He.ga K "Lead")) (u := .ref (He.ga K "Lead")) (by rfl) fx.g_Lead rfl)) ta_nil))))))
    (tss_one (ts_ret hp (pt_res (tr_bin (op_addA hK) (pt_var (pv 1)) (pt_lst (ta_cons (pt_isi hK (AllP.all (.cons fx.q_Row (.cons fx.q_First (.cons fx.q_Mode (.cons fx.q_Turn (.cons fx.q_Lead (.cons fx.q_House .nil))))))) (Tgt.cls (tcN K cs) (.own 5)) (fun d b h1 h2 => kitOne_of (isiB_ok fx.is_House d b h1 h2)) rfl fx.f_isinstance (pt_var (pv 0)) (pe_glob (v := .ref (He.ga K "House")) (u := .ref (He.ga K "House")) (by rfl) fx.g_House rfl)) ta_nil)))))))
def N_law : List PySem.Str := ["_law_script", "_law_deal_here", "_law_sorts", "_law_turn", "_law_row_here", "_law_other", "_law_made_here", "_law_text_here", "_law_again", "_law_due", "_law_sort_here"]
theorem sc_law : FnScope N_law ["_law_script"] (defScope (top 47)) := ⟨rfl, rfl, rfl, by decide +kernel, rfl, by decide +kernel, by decide +kernel⟩
theorem ok_law (fx : Fx P K mg) {fd : FuncData} (D : FunD K "law" "law" (defArgs (top 47)) (defBody (top 47)) (defScope (top 47)) (([] : List He.Dv).map (He.Dv.v K)) (([] : List (PySem.Str × He.Dv)).map fun q => (q.1, q.2.v K)) (He.ga K "law") fd) : FnG P w K mg base 10 (He.ga K "law") fd ["_law_script"] (spF (tcN K cs) 1 F_law) := by
  obtain ⟨fd__law_deal, D__law_deal⟩ := fx.d__law_deal
  obtain ⟨fd__law_row, D__law_row⟩ := fx.d__law_row
  obtain ⟨fd__law_text, D__law_text⟩ := fx.d__law_text
  obtain ⟨fd__law_made, D__law_made⟩ := fx.d__law_made
  obtain ⟨fd_Row_read, D_Row_read⟩ := fx.d_Row_read
  obtain ⟨fd_House___str__, D_House___str__⟩ := fx.d_House___str__
  obtain ⟨fd_Lead___str__, D_Lead___str__⟩ := fx.d_Lead___str__
  obtain ⟨fd_Turn___str__, D_Turn___str__⟩ := fx.d_Turn___str__
  obtain ⟨fd_Mode___str__, D_Mode___str__⟩ := fx.d_Mode___str__
  obtain ⟨fd_First___str__, D_First___str__⟩ := fx.d_First___str__
  obtain ⟨fd_Row___eq__, D_Row___eq__⟩ := fx.d_Row___eq__
  obtain ⟨fd__law_sort, D__law_sort⟩ := fx.d__law_sort
  refine fn_tree D sc_law (by decide) fun cdv A outer s H E r => ?_
  intro X hr hp tk po
  have hK : X.K = (tcN K cs).K := rfl
  have hc : X.calm = true := rfl
  have nd : X.N.Nodup := sc_law.nd
  have hr2 : RoomG 2 X.A := hr.mono (by decide)
  have hr4 : RoomG 4 X.A := hr.mono (by decide)
  have hr5 : RoomG 5 X.A := hr.mono (by decide)
  have hr6 : RoomG 6 X.A := hr.mono (by decide)
  have hr7 : RoomG 7 X.A := hr.mono (by decide)
  have hr9 : RoomG 9 X.A := hr.mono (by decide)
  exact (tss_cons (ts_own (i := 1) nd rfl locOf (npin hp) (pf_res (tr_call ((ok__law_deal fx D__law_deal).mono (Nat.le_refl _)) (Fill.all (D__law_deal.bindsN fun _ _ _ _ _ _ us hl => match us, hl with | [_, _], _ => rfl)) hr2 tk rfl fx.g__law_deal D__law_deal.kp (ta_cons (pt_var (pv 0)) (ta_cons pt_int ta_nil)))))
    (tss_cons (ts_set (i := 2) nd rfl locOf (npin hp) (pt_lst (ta_cons pt_str (ta_cons pt_str (ta_cons pt_str (ta_cons pt_str (ta_cons pt_str ta_nil)))))))
    (tss_cons (ts_for (xs := eb_law_1) po hc (ti_range1 rfl fx.f_range (ta_cons pt_int ta_nil)) (tg_name (i := 3) (pg_name (i := 3) nd rfl locOf) (npin hp)) (tss_cons (ts_asg (pt_tup (ta_cons (pt_res (tr_call ((ok__law_row fx D__law_row).mono (Nat.le_refl _)) (Fill.all (D__law_row.bindsN fun _ _ _ _ _ _ us hl => match us, hl with | [_], _ => rfl)) hr5 tk rfl fx.g__law_row D__law_row.kp (ta_cons (pt_var (pv 1)) ta_nil))) (ta_cons (pt_res (tr_call ((ok__law_row fx D__law_row).mono (Nat.le_refl _)) (Fill.all (D__law_row.bindsN fun _ _ _ _ _ _ us hl => match us, hl with | [_], _ => rfl)) hr5 tk rfl fx.g__law_row D__law_row.kp (ta_cons (pt_var (pv 1)) ta_nil))) ta_nil))) (tg_tupL (n := 2) hK hc (tgs_cons (tg_name (i := 4) (pg_name (i := 4) nd rfl locOf) (npin hp)) (tgs_cons (tg_name (i := 5) (pg_name (i := 5) nd rfl locOf) (npin hp)) tgs_nil))))
    (tss_cons (ts_par (i := 6) (j := 7) hc nd rfl rfl (by decide) rfl rfl (npin hp) (npin hp) (tb_cons (tr_tree (pt_res (tr_call ((ok__law_made fx D__law_made).mono (Nat.le_refl _)) (Fill.all (D__law_made.bindsN fun _ _ _ _ _ _ us hl => match us, hl with | [_], _ => rfl)) hr7 tk rfl fx.g__law_made D__law_made.kp (ta_cons (pt_var (pv 4)) ta_nil)))) (tb_cons (tr_tree (pt_res (tr_call ((ok__law_text fx D__law_text).mono (Nat.le_refl _)) (Fill.all (D__law_text.bindsN fun _ _ _ _ _ _ us hl => match us, hl with | [_], _ => rfl)) hr2 tk rfl fx.g__law_text D__law_text.kp (ta_cons (pt_var (pv 4)) ta_nil)))) tb_nil)))
    (tss_cons (ts_set (i := 8) nd rfl locOf (npin hp) (pt_res (tr_cmethP (pe_glob (v := .ref (He.ga K "Row")) (u := .ref (He.ga K "Row")) (by rfl) fx.g_Row rfl) fx.cr_Row fx.cm_Row__read ((ok_Row_read fx D_Row_read).mono (Nat.le_refl _)) (Fill.all (D_Row_read.bindsN fun _ _ _ _ _ _ us hl => match us, hl with | [_, _], _ => rfl)) hr9 tk (ta_cons (pt_var (pv 7)) ta_nil))))
    (tss_cons (ts_if (tt_w (tw_or (tt_cmp (op_neP hK (u64 hr)) (pt_res (tr_alt (tr_strOwn (own_of fx.m_First____str__) ((ok_First___str__ fx D_First___str__).mono (Nat.le_refl _)) (D_First___str__.bindsN fun _ _ _ _ _ _ us hl => match us, hl with | [_], _ => rfl) hr4 tk rfl fx.f_str (pt_var (pv 6))) (tr_alt (tr_strOwn (own_of fx.m_Mode____str__) ((ok_Mode___str__ fx D_Mode___str__).mono (Nat.le_refl _)) (D_Mode___str__.bindsN fun _ _ _ _ _ _ us hl => match us, hl with | [_], _ => rfl) hr4 tk rfl fx.f_str (pt_var (pv 6))) (tr_alt (tr_strOwn (own_of fx.m_Turn____str__) ((ok_Turn___str__ fx D_Turn___str__).mono (Nat.le_refl _)) (D_Turn___str__.bindsN fun _ _ _ _ _ _ us hl => match us, hl with | [_], _ => rfl) hr4 tk rfl fx.f_str (pt_var (pv 6))) (tr_alt (tr_strOwn (own_of fx.m_Lead____str__) ((ok_Lead___str__ fx D_Lead___str__).mono (Nat.le_refl _)) (D_Lead___str__.bindsN fun _ _ _ _ _ _ us hl => match us, hl with | [_], _ => rfl) hr4 tk rfl fx.f_str (pt_var (pv 6))) (tr_strOwn (own_of fx.m_House____str__) ((ok_House___str__ fx D_House___str__).mono (Nat.le_refl _)) (D_House___str__.bindsN fun _ _ _ _ _ _ us hl => match us, hl with | [_], _ => rfl) hr4 tk rfl fx.f_str (pt_var (pv 6)))))))) (pt_var (pv 7)) rfl) (tw_or (tt_cmp (op_neP hK (u64 hr)) (pt_res (tr_alt (tr_strOwn (own_of fx.m_First____str__) ((ok_First___str__ fx D_First___str__).mono (Nat.le_refl _)) (D_First___str__.bindsN fun _ _ _ _ _ _ us hl => match us, hl with | [_], _ => rfl) hr4 tk rfl fx.f_str (pt_var (pv 8))) (tr_alt (tr_strOwn (own_of fx.m_Mode____str__) ((ok_Mode___str__ fx D_Mode___str__).mono (Nat.le_refl _)) (D_Mode___str__.bindsN fun _ _ _ _ _ _ us hl => match us, hl with | [_], _ => rfl) hr4 tk rfl fx.f_str (pt_var (pv 8))) (tr_alt (tr_strOwn (own_of fx.m_Turn____str__) ((ok_Turn___str__ fx D_Turn___str__).mono (Nat.le_refl _)) (D_Turn___str__.bindsN fun _ _ _ _ _ _ us hl => match us, hl with | [_], _ => rfl) hr4 tk rfl fx.f_str (pt_var (pv 8))) (tr_alt (tr_strOwn (own_of fx.m_Lead____str__) ((ok_Lead___str__ fx D_Lead___str__).mono (Nat.le_refl _)) (D_Lead___str__.bindsN fun _ _ _ _ _ _ us hl => match us, hl with | [_], _ => rfl) hr4 tk rfl fx.f_str (pt_var (pv 8))) (tr_strOwn (own_of fx.m_House____str__) ((ok_House___str__ fx D_House___str__).mono (Nat.le_refl _)) (D_House___str__.bindsN fun _ _ _ _ _ _ us hl => match us, hl with | [_], _ => rfl) hr4 tk rfl fx.f_str (pt_var (pv 8)))))))) (pt_var (pv 7)) rfl) (tw_or1 (tt_neOwnL fx.ql_Row_1_2_3_4_5 ((ok_Row___eq__ fx D_Row___eq__).mono (Nat.le_refl _)) (D_Row___eq__.bindsN fun _ _ _ _ _ _ us hl => match us, hl with | [_, _], _ => rfl) hr6 tk (pt_var (pv 8)) (pt_var (pv 6))))))) (tss_one (ts_ret hp pt_bl)) tss_nil)
    (tss_cons (ts_if (tt_cmp (op_neP hK (u64 hr)) (pt_res (tr_call ((ok__law_text fx D__law_text).mono (Nat.le_refl _)) (Fill.all (D__law_text.bindsN fun _ _ _ _ _ _ us hl => match us, hl with | [_], _ => rfl)) hr2 tk rfl fx.g__law_text D__law_text.kp (ta_cons (pt_var (pv 5)) ta_nil))) (pt_res (tr_alt (tr_strOwn (own_of fx.m_First____str__) ((ok_First___str__ fx D_First___str__).mono (Nat.le_refl _)) (D_First___str__.bindsN fun _ _ _ _ _ _ us hl => match us, hl with | [_], _ => rfl) hr4 tk rfl fx.f_str (pt_res (tr_cmethP (pe_glob (v := .ref (He.ga K "Row")) (u := .ref (He.ga K "Row")) (by rfl) fx.g_Row rfl) fx.cr_Row fx.cm_Row__read ((ok_Row_read fx D_Row_read).mono (Nat.le_refl _)) (Fill.all (D_Row_read.bindsN fun _ _ _ _ _ _ us hl => match us, hl with | [_, _], _ => rfl)) hr9 tk (ta_cons (pt_res (tr_call ((ok__law_text fx D__law_text).mono (Nat.le_refl _)) (Fill.all (D__law_text.bindsN fun _ _ _ _ _ _ us hl => match us, hl with | [_], _ => rfl)) hr2 tk rfl fx.g__law_text D__law_text.kp (ta_cons (pt_var (pv 5)) ta_nil))) ta_nil)))) (tr_alt (tr_strOwn (own_of fx.m_Mode____str__) ((ok_Mode___str__ fx D_Mode___str__).mono (Nat.le_refl _)) (D_Mode___str__.bindsN fun _ _ _ _ _ _ us hl => match us, hl with | [_], _ => rfl) hr4 tk rfl fx.f_str (pt_res (tr_cmethP (pe_glob (v := .ref (He.ga K "Row")) (u := .ref (He.ga K "Row")) (by rfl) fx.g_Row rfl) fx.cr_Row fx.cm_Row__read ((ok_Row_read fx D_Row_read).mono (Nat.le_refl _)) (Fill.all (D_Row_read.bindsN fun _ _ _ _ _ _ us hl => match us, hl with | [_, _], _ => rfl)) hr9 tk (ta_cons (pt_res (tr_call ((ok__law_text fx D__law_text).mono (Nat.le_refl _)) (Fill.all (D__law_text.bindsN fun _ _ _ _ _ _ us hl => match us, hl with | [_], _ => rfl)) hr2 tk rfl fx.g__law_text D__law_text.kp (ta_cons (pt_var (pv 5)) ta_nil))) ta_nil)))) (tr_alt (tr_strOwn (own_of fx.m_Turn____str__) ((ok_Turn___str__ fx D_Turn___str__).mono (Nat.le_refl _)) (D_Turn___str__.bindsN fun _ _ _ _ _ _ us hl => match us, hl with | [_], _ => rfl) hr4 tk rfl fx.f_str (pt_res (tr_cmethP (pe_glob (v := .ref (He.ga K "Row")) (u := .ref (He.ga K "Row")) (by rfl) fx.g_Row rfl) fx.cr_Row fx.cm_Row__read ((ok_Row_read fx D_Row_read).mono (Nat.le_refl _)) (Fill.all (D_Row_read.bindsN fun _ _ _ _ _ _ us hl => match us, hl with | [_, _], _ => rfl)) hr9 tk (ta_cons (pt_res (tr_call ((ok__law_text fx D__law_text).mono (Nat.le_refl _)) (Fill.all (D__law_text.bindsN fun _ _ _ _ _ _ us hl => match us, hl with | [_], _ => rfl)) hr2 tk rfl fx.g__law_text D__law_text.kp (ta_cons (pt_var (pv 5)) ta_nil))) ta_nil)))) (tr_alt (tr_strOwn (own_of fx.m_Lead____str__) ((ok_Lead___str__ fx D_Lead___str__).mono (Nat.le_refl _)) (D_Lead___str__.bindsN fun _ _ _ _ _ _ us hl => match us, hl with | [_], _ => rfl) hr4 tk rfl fx.f_str (pt_res (tr_cmethP (pe_glob (v := .ref (He.ga K "Row")) (u := .ref (He.ga K "Row")) (by rfl) fx.g_Row rfl) fx.cr_Row fx.cm_Row__read ((ok_Row_read fx D_Row_read).mono (Nat.le_refl _)) (Fill.all (D_Row_read.bindsN fun _ _ _ _ _ _ us hl => match us, hl with | [_, _], _ => rfl)) hr9 tk (ta_cons (pt_res (tr_call ((ok__law_text fx D__law_text).mono (Nat.le_refl _)) (Fill.all (D__law_text.bindsN fun _ _ _ _ _ _ us hl => match us, hl with | [_], _ => rfl)) hr2 tk rfl fx.g__law_text D__law_text.kp (ta_cons (pt_var (pv 5)) ta_nil))) ta_nil)))) (tr_strOwn (own_of fx.m_House____str__) ((ok_House___str__ fx D_House___str__).mono (Nat.le_refl _)) (D_House___str__.bindsN fun _ _ _ _ _ _ us hl => match us, hl with | [_], _ => rfl) hr4 tk rfl fx.f_str (pt_res (tr_cmethP (pe_glob (v := .ref (He.ga K "Row")) (u := .ref (He.ga K "Row")) (by rfl) fx.g_Row rfl) fx.cr_Row fx.cm_Row__read ((ok_Row_read fx D_Row_read).mono (Nat.le_refl _)) (Fill.all (D_Row_read.bindsN fun _ _ _ _ _ _ us hl => match us, hl with | [_, _], _ => rfl)) hr9 tk (ta_cons (pt_res (tr_call ((ok__law_text fx D__law_text).mono (Nat.le_refl _)) (Fill.all (D__law_text.bindsN fun _ _ _ _ _ _ us hl => match us, hl with | [_], _ => rfl)) hr2 tk rfl fx.g__law_text D__law_text.kp (ta_cons (pt_var (pv 5)) ta_nil))) ta_nil))))))))) rfl) (tss_one (ts_ret hp pt_bl)) tss_nil)
    (tss_cons (ts_setLc (i := 9) (own := [("_law_sort_here", 10)]) (us := [10]) hc nd rfl rfl (npin hp) rfl (npins hp) subl (ti_any hp hK (pt_var (pv 2))) (blkOk_by (by kernel_rfl)) (fun s H C cl fp => (tg_name (i := 10) (pg_name (i := 10) nd rfl locOf) (npin hp))) (fun s H C cl fp => tts_nil) (fun s H C cl fp => (pt_cmp (op_eqP hK (u64 hr)) (pt_var (pv 10)) (pt_ix hK (pt_var (pv 4)) pt_int (fun _ _ => rfl)) rfl)))
    (tss_cons (ts_if (tt_w (tw_or (tt_cmp (op_neP hK (u64 hr)) (pt_res (tr_call ((ok__law_sort fx D__law_sort).mono (Nat.le_refl _)) (Fill.all (D__law_sort.bindsN fun _ _ _ _ _ _ us hl => match us, hl with | [_], _ => rfl)) hr2 tk rfl fx.g__law_sort D__law_sort.kp (ta_cons (pt_var (pv 6)) ta_nil))) (pt_var (pv 9)) rfl) (tw_or1 (tt_cmp (op_neP hK (u64 hr)) (pt_res (tr_call ((ok__law_sort fx D__law_sort).mono (Nat.le_refl _)) (Fill.all (D__law_sort.bindsN fun _ _ _ _ _ _ us hl => match us, hl with | [_], _ => rfl)) hr2 tk rfl fx.g__law_sort D__law_sort.kp (ta_cons (pt_var (pv 8)) ta_nil))) (pt_var (pv 9)) rfl)))) (tss_one (ts_ret hp pt_bl)) tss_nil)
    (tss_one (ts_if (tt_w (tw_or (tt_cmp (op_neP hK (u64 hr)) (pt_cmp (op_eqP hK (u64 hr)) (pt_var (pv 4)) (pt_var (pv 5)) rfl) (pt_cmp (op_eqP hK (u64 hr)) (pt_var (pv 7)) (pt_res (tr_call ((ok__law_text fx D__law_text).mono (Nat.le_refl _)) (Fill.all (D__law_text.bindsN fun _ _ _ _ _ _ us hl => match us, hl with | [_], _ => rfl)) hr2 tk rfl fx.g__law_text D__law_text.kp (ta_cons (pt_var (pv 5)) ta_nil))) rfl) rfl) (tw_or1 (tt_cmp (op_neP hK (u64 hr)) (pt_res (tr_eqOwnL fx.ql_Row_1_2_3_4_5 ((ok_Row___eq__ fx D_Row___eq__).mono (Nat.le_refl _)) (D_Row___eq__.bindsN fun _ _ _ _ _ _ us hl => match us, hl with | [_, _], _ => rfl) hr5 tk (pt_var (pv 6)) (pt_res (tr_call ((ok__law_made fx D__law_made).mono (Nat.le_refl _)) (Fill.all (D__law_made.bindsN fun _ _ _ _ _ _ us hl => match us, hl with | [_], _ => rfl)) hr7 tk rfl fx.g__law_made D__law_made.kp (ta_cons (pt_var (pv 5)) ta_nil))))) (pt_cmp (op_eqP hK (u64 hr)) (pt_var (pv 4)) (pt_var (pv 5)) rfl) rfl)))) (tss_one (ts_ret hp pt_bl)) tss_nil))))))))))
    (tss_one (ts_ret hp pt_bl)))))
end
def dd__law_deal : He5.DefA := ⟨fun K => He.ga K "_law_deal", "_law_deal", "_law_deal", defArgs (top 34), defBody (top 34), defScope (top 34), [], []⟩
def dd__law_draw : He5.DefA := ⟨fun K => He.ga K "_law_draw", "_law_draw", "_law_draw", defArgs (top 35), defBody (top 35), defScope (top 35), [], []⟩
def dd__law_mixed : He5.DefA := ⟨fun K => He.ga K "_law_mixed", "_law_mixed", "_law_mixed", defArgs (top 37), defBody (top 37), defScope (top 37), [], []⟩
def dd__law_pool : He5.DefA := ⟨fun K => He.ga K "_law_pool", "_law_pool", "_law_pool", defArgs (top 38), defBody (top 38), defScope (top 38), [], []⟩
def dd__law_names : He5.DefA := ⟨fun K => He.ga K "_law_names", "_law_names", "_law_names", defArgs (top 39), defBody (top 39), defScope (top 39), [], []⟩
def dd__law_pick : He5.DefA := ⟨fun K => He.ga K "_law_pick", "_law_pick", "_law_pick", defArgs (top 36), defBody (top 36), defScope (top 36), [], []⟩
def dd__law_test : He5.DefA := ⟨fun K => He.ga K "_law_test", "_law_test", "_law_test", defArgs (top 40), defBody (top 40), defScope (top 40), [], []⟩
def dd__law_few : He5.DefA := ⟨fun K => He.ga K "_law_few", "_law_few", "_law_few", defArgs (top 42), defBody (top 42), defScope (top 42), [], []⟩
def dd__law_deed : He5.DefA := ⟨fun K => He.ga K "_law_deed", "_law_deed", "_law_deed", defArgs (top 41), defBody (top 41), defScope (top 41), [], []⟩
def dd__law_row : He5.DefA := ⟨fun K => He.ga K "_law_row", "_law_row", "_law_row", defArgs (top 43), defBody (top 43), defScope (top 43), [], []⟩
def dd__law_text : He5.DefA := ⟨fun K => He.ga K "_law_text", "_law_text", "_law_text", defArgs (top 45), defBody (top 45), defScope (top 45), [], []⟩
def dd_is_name : He5.DefA := ⟨fun K => He.ga K "is_name", "is_name", "is_name", defArgs (top 7), defBody (top 7), defScope (top 7), [], []⟩
def dd_First___init__ : He5.DefA := ⟨fun K => He.ma K (He.ga K "First") "__init__", "__init__", "First.__init__", defArgs (inClass (top 23) 0), defBody (inClass (top 23) 0), defScope (inClass (top 23) 0), [], []⟩
def dd_is_word : He5.DefA := ⟨fun K => He.ga K "is_word", "is_word", "is_word", defArgs (top 18), defBody (top 18), defScope (top 18), [], []⟩
def dd_is_sequence : He5.DefA := ⟨fun K => He.ga K "is_sequence", "is_sequence", "is_sequence", defArgs (top 8), defBody (top 8), defScope (top 8), [], []⟩
def dd_are_names : He5.DefA := ⟨fun K => He.ga K "are_names", "are_names", "are_names", defArgs (top 9), defBody (top 9), defScope (top 9), [], []⟩
def dd_are_unlike_names : He5.DefA := ⟨fun K => He.ga K "are_unlike_names", "are_unlike_names", "are_unlike_names", defArgs (top 10), defBody (top 10), defScope (top 10), [], []⟩
def dd_Mode___init__ : He5.DefA := ⟨fun K => He.ma K (He.ga K "Mode") "__init__", "__init__", "Mode.__init__", defArgs (inClass (top 24) 0), defBody (inClass (top 24) 0), defScope (inClass (top 24) 0), [.non, .adr (He.dflAt ("Mode", some "__init__") 1)], []⟩
def dd_Turn___init__ : He5.DefA := ⟨fun K => He.ma K (He.ga K "Turn") "__init__", "__init__", "Turn.__init__", defArgs (inClass (top 25) 0), defBody (inClass (top 25) 0), defScope (inClass (top 25) 0), [], []⟩
def dd_Lead___init__ : He5.DefA := ⟨fun K => He.ma K (He.ga K "Lead") "__init__", "__init__", "Lead.__init__", defArgs (inClass (top 26) 0), defBody (inClass (top 26) 0), defScope (inClass (top 26) 0), [.adr (He.dflAt ("Lead", some "__init__") 0)], []⟩
def dd_is_phase : He5.DefA := ⟨fun K => He.ga K "is_phase", "is_phase", "is_phase", defArgs (top 19), defBody (top 19), defScope (top 19), [], []⟩
def dd_is_test : He5.DefA := ⟨fun K => He.ga K "is_test", "is_test", "is_test", defArgs (top 20), defBody (top 20), defScope (top 20), [], []⟩
def dd_is_deed : He5.DefA := ⟨fun K => He.ga K "is_deed", "is_deed", "is_deed", defArgs (top 21), defBody (top 21), defScope (top 21), [], []⟩
def dd_House___init__ : He5.DefA := ⟨fun K => He.ma K (He.ga K "House") "__init__", "__init__", "House.__init__", defArgs (inClass (top 27) 0), defBody (inClass (top 27) 0), defScope (inClass (top 27) 0), [.adr (He.dflAt ("House", some "__init__") 0), .adr (He.dflAt ("House", some "__init__") 1)], []⟩
def dd__law_made : He5.DefA := ⟨fun K => He.ga K "_law_made", "_law_made", "_law_made", defArgs (top 44), defBody (top 44), defScope (top 44), [], []⟩
def dd_joined : He5.DefA := ⟨fun K => He.ga K "joined", "joined", "joined", defArgs (top 29), defBody (top 29), defScope (top 29), [], []⟩
def dd_lead_in : He5.DefA := ⟨fun K => He.ga K "lead_in", "lead_in", "lead_in", defArgs (top 31), defBody (top 31), defScope (top 31), [], []⟩
def dd_parted : He5.DefA := ⟨fun K => He.ga K "parted", "parted", "parted", defArgs (top 28), defBody (top 28), defScope (top 28), [], []⟩
def dd_house_in : He5.DefA := ⟨fun K => He.ga K "house_in", "house_in", "house_in", defArgs (top 32), defBody (top 32), defScope (top 32), [], []⟩
def dd_row_in : He5.DefA := ⟨fun K => He.ga K "row_in", "row_in", "row_in", defArgs (top 30), defBody (top 30), defScope (top 30), [], []⟩
def dd_House___str__ : He5.DefA := ⟨fun K => He.ma K (He.ga K "House") "__str__", "__str__", "House.__str__", defArgs (inClass (top 27) 1), defBody (inClass (top 27) 1), defScope (inClass (top 27) 1), [], []⟩
def dd_Lead___str__ : He5.DefA := ⟨fun K => He.ma K (He.ga K "Lead") "__str__", "__str__", "Lead.__str__", defArgs (inClass (top 26) 1), defBody (inClass (top 26) 1), defScope (inClass (top 26) 1), [], []⟩
def dd_Turn___str__ : He5.DefA := ⟨fun K => He.ma K (He.ga K "Turn") "__str__", "__str__", "Turn.__str__", defArgs (inClass (top 25) 1), defBody (inClass (top 25) 1), defScope (inClass (top 25) 1), [], []⟩
def dd_Mode___str__ : He5.DefA := ⟨fun K => He.ma K (He.ga K "Mode") "__str__", "__str__", "Mode.__str__", defArgs (inClass (top 24) 1), defBody (inClass (top 24) 1), defScope (inClass (top 24) 1), [], []⟩
def dd_First___str__ : He5.DefA := ⟨fun K => He.ma K (He.ga K "First") "__str__", "__str__", "First.__str__", defArgs (inClass (top 23) 1), defBody (inClass (top 23) 1), defScope (inClass (top 23) 1), [], []⟩
def dd_Row_read : He5.DefA := ⟨fun K => He5.wf K (He.ga K "Row") "classmethod" "read", "read", "Row.read", defArgs (inClass (top 22) 0), defBody (inClass (top 22) 0), defScope (inClass (top 22) 0), [], []⟩
def dd_Row___eq__ : He5.DefA := ⟨fun K => He.ma K (He.ga K "Row") "__eq__", "__eq__", "Row.__eq__", defArgs (inClass (top 22) 2), defBody (inClass (top 22) 2), defScope (inClass (top 22) 2), [], []⟩
def dd__law_sort : He5.DefA := ⟨fun K => He.ga K "_law_sort", "_law_sort", "_law_sort", defArgs (top 46), defBody (top 46), defScope (top 46), [], []⟩
def dd_law : He5.DefA := ⟨fun K => He.ga K "law", "law", "law", defArgs (top 47), defBody (top 47), defScope (top 47), [], []⟩
def fn : List He5.DefA := [dd__law_deal, dd__law_draw, dd__law_mixed, dd__law_pool, dd__law_names, dd__law_pick, dd__law_test, dd__law_few, dd__law_deed, dd__law_row, dd__law_text, dd_is_name, dd_First___init__, dd_is_word, dd_is_sequence, dd_are_names, dd_are_unlike_names, dd_Mode___init__, dd_Turn___init__, dd_Lead___init__, dd_is_phase, dd_is_test, dd_is_deed, dd_House___init__, dd__law_made, dd_joined, dd_lead_in, dd_parted, dd_house_in, dd_row_in, dd_House___str__, dd_Lead___str__, dd_Turn___str__, dd_Mode___str__, dd_First___str__, dd_Row_read, dd_Row___eq__, dd__law_sort, dd_law]
def fs : List (PySem.W.Frag → Bool) := [(He.Fa.free "abs").ok,
  (He.Fa.free "int").ok,
  (He.Fa.glo "_law_deal").ok,
  (He.Fa.free "range").ok,
  (He.Fa.free "list").ok,
  (He.Fa.free "len").ok,
  (He.Fa.glo "_law_draw").ok,
  (He.Fa.glo "_law_pool").ok,
  (He.Fa.glo "_law_mixed").ok,
  (He.Fa.glo "_law_names").ok,
  (He.Fa.glo "_law_pick").ok,
  (He.Fa.glo "_law_test").ok,
  (He.Fa.free "enumerate").ok,
  (He.Fa.glo "_law_deed").ok,
  (He.Fa.glo "_law_few").ok,
  (He.Fa.glo "_law_row").ok,
  (He.Fa.glo "_law_text").ok,
  isiB cs ks [.str] [.ty "str"],
  isicB "Row",
  isicB "First",
  isicB "Mode",
  isicB "Turn",
  isicB "Lead",
  isicB "House",
  (He.Fa.free "isinstance").ok,
  (He.Fa.free "str").ok,
  (He.Fa.glo "BARRED").ok,
  fun K => He.tupB K "BARRED" ((["and", "any", "do", "if", "none", "not", "same", "send", "then", "time", "to", "wipe", "work"] : List PySem.Str).map He.Dv.str),
  (He.Fa.str "SMALL" "abcdefghijklmnopqrstuvwxyz").ok,
  (He.Fa.free "all").ok,
  (He.Fa.glo "is_name").ok,
  fun K => xcB1 XB.value "word" (He.ga K "InvalidRow") K,
  fun K => xcB2 "word" PySem.Challenge.pw_stepsback_k04_texts_of_rows.main.file (He.ga K "InvalidRow") K,
  fun K => xcB3 XB.value "word" (He.ga K "InvalidRow") K,
  fun K => xcB4 "word" (He.ga K "InvalidRow") K,
  fun K => xcB5 (He.ga K "InvalidRow") K,
  (He.Fa.glo "InvalidRow").ok,
  (He.Fa.cls "First").ok,
  (He.Fa.noat "First" "place").ok,
  (He.Fa.mkr "First").ok,
  (He.Fa.glo "First").ok,
  (He.Fa.glo "PROMISES").ok,
  fun K => He.tupB K "PROMISES" ((["made", "gone"] : List PySem.Str).map He.Dv.str),
  (He.Fa.glo "is_word").ok,
  isiB cs ks [.lst, .tup] [.ty "list", .ty "tuple"],
  (He.Fa.free "tuple").ok,
  (He.Fa.glo "is_sequence").ok,
  (He.Fa.glo "are_names").ok,
  (He.Fa.glo "are_unlike_names").ok,
  (He.Fa.cls "Mode").ok,
  (He.Fa.noat "Mode" "name").ok,
  (He.Fa.noat "Mode" "promise").ok,
  (He.Fa.noat "Mode" "ends").ok,
  (He.Fa.mkr "Mode").ok,
  (He.Fa.glo "Mode").ok,
  (He.Fa.glo "WAYS").ok,
  fun K => He.tupB K "WAYS" ((["some", "all", "time"] : List PySem.Str).map He.Dv.str),
  (He.Fa.cls "Turn").ok,
  (He.Fa.noat "Turn" "mode").ok,
  (He.Fa.noat "Turn" "way").ok,
  (He.Fa.noat "Turn" "places").ok,
  (He.Fa.noat "Turn" "then").ok,
  (He.Fa.mkr "Turn").ok,
  (He.Fa.glo "Turn").ok,
  (He.Fa.cls "Lead").ok,
  (He.Fa.noat "Lead" "mode").ok,
  (He.Fa.noat "Lead" "place").ok,
  (He.Fa.noat "Lead" "event").ok,
  (He.Fa.noat "Lead" "then").ok,
  (He.Fa.noat "Lead" "sends").ok,
  (He.Fa.mkr "Lead").ok,
  (He.Fa.glo "Lead").ok,
  (He.Fa.glo "PLAIN_EVENTS").ok,
  fun K => He.tupB K "PLAIN_EVENTS" ((["build", "leave", "work", "wipe"] : List PySem.Str).map He.Dv.str),
  (He.Fa.glo "PLAIN_TESTS").ok,
  fun K => He.tupB K "PLAIN_TESTS" ((["made", "built"] : List PySem.Str).map He.Dv.str),
  (He.Fa.glo "is_phase").ok,
  (He.Fa.glo "is_test").ok,
  (He.Fa.glo "PLAIN_DEEDS").ok,
  fun K => He.tupB K "PLAIN_DEEDS" ((["make", "take", "grip", "free"] : List PySem.Str).map He.Dv.str),
  (He.Fa.glo "NAMED_DEEDS").ok,
  fun K => He.tupB K "NAMED_DEEDS" ((["mark", "clear", "send"] : List PySem.Str).map He.Dv.str),
  (He.Fa.glo "is_deed").ok,
  (He.Fa.cls "House").ok,
  (He.Fa.noat "House" "event").ok,
  (He.Fa.noat "House" "tests").ok,
  (He.Fa.noat "House" "deeds").ok,
  (He.Fa.mkr "House").ok,
  (He.Fa.glo "House").ok,
  (He.Fa.glo "_law_made").ok,
  (He.Fa.glo "joined").ok,
  (He.Fa.glo "lead_in").ok,
  (He.Fa.glo "parted").ok,
  (He.Fa.glo "house_in").ok,
  (He.Fa.glo "row_in").ok,
  exmB cs [20] [20] 20,
  (He.Fa.meth "House" "__str__").ok,
  (He.Fa.meth "Lead" "__str__").ok,
  (He.Fa.meth "Turn" "__str__").ok,
  (He.Fa.meth "Mode" "__str__").ok,
  (He.Fa.meth "First" "__str__").ok,
  fun K => xcB1 XB.value "at" (He.ga K "InvalidText") K,
  fun K => xcB2 "at" PySem.Challenge.pw_stepsback_k04_texts_of_rows.main.file (He.ga K "InvalidText") K,
  fun K => xcB3 XB.value "at" (He.ga K "InvalidText") K,
  fun K => xcB4 "at" (He.ga K "InvalidText") K,
  fun K => xcB5 (He.ga K "InvalidText") K,
  (He.Fa.glo "InvalidText").ok,
  (He.Fa.glo "Row").ok,
  creadB "Row",
  cmB "Row" "read",
  isiB cs ks [.ins 0, .ins 1, .ins 2, .ins 3, .ins 4, .ins 5] [.own 0],
  eqLB cs [1, 2, 3, 4, 5] "Row",
  isiB cs ks [.ins 1] [.own 1],
  isiB cs ks [.ins 2] [.own 2],
  isiB cs ks [.ins 3] [.own 3],
  isiB cs ks [.ins 4] [.own 4],
  isiB cs ks [.ins 5] [.own 5],
  (He.Fa.glo "_law_sort").ok,
  nilAt (He.dflAt ("Mode", some "__init__") 1),
  nilAt (He.dflAt ("Lead", some "__init__") 0),
  nilAt (He.dflAt ("House", some "__init__") 0),
  nilAt (He.dflAt ("House", some "__init__") 1),
  (He.Fa.glo "law").ok]
abbrev R : PySem.W.OpenRow := PySem.W.OpenLaw.row PySem.Challenge.rw_stepsback_k04_texts_of_rows
abbrev hk : PySem.W.Hook := hookT 6 fs fn
def ob (s : PySem.W.SharedT) : He.AlD := obsTG 6 fs fn (HandSHeadRun.getT s)
theorem ob_eq (s : PySem.W.SharedT) : ob s = hk.obs s.abs := obsTG_eq (HandSHeadRun.getT_eq s)
def nm0 : List PySem.Str := ["StepError", "InvalidRow", "InvalidText", "SMALL", "BARRED", "is_name", "is_sequence", "are_names", "are_unlike_names", "PROMISES", "WAYS", "PLAIN_EVENTS", "PLAIN_TESTS", "PLAIN_DEEDS", "NAMED_DEEDS", "is_word", "is_phase", "is_test", "is_deed", "Row", "First", "Mode", "Turn", "Lead", "House", "parted", "joined", "row_in", "lead_in", "house_in"]
def nm1 : List PySem.Str := ["_law_deal", "_law_draw", "_law_pick", "_law_mixed", "_law_pool", "_law_names", "_law_test", "_law_deed", "_law_few", "_law_row", "_law_made", "_law_text", "_law_sort"]
def nms : List PySem.Str := nm0 ++ nm1
theorem run (w : World) : HandSHeadRun.RunEq R (PySem.W.view R.prog [47]) hk ob 6000 nms w := by
  intro os
  kernel_rfl
theorem fx_of {K : PySem.W.Frag} {h : Heap} {mg : PySem.Str → Option Value} (X : K.In h) (G : h.Ns mainGlobals mg) (c : SaysT fs fn K) : Fx PySem.Challenge.rw_stepsback_k04_texts_of_rows.prog K mg where
  f_abs := He.free_ok X G (c.fact 0)
  f_int := He.free_ok X G (c.fact 1)
  g__law_deal := He.glo_ok X G (c.fact 2)
  f_range := He.free_ok X G (c.fact 3)
  f_list := He.free_ok X G (c.fact 4)
  f_len := He.free_ok X G (c.fact 5)
  g__law_draw := He.glo_ok X G (c.fact 6)
  g__law_pool := He.glo_ok X G (c.fact 7)
  g__law_mixed := He.glo_ok X G (c.fact 8)
  g__law_names := He.glo_ok X G (c.fact 9)
  g__law_pick := He.glo_ok X G (c.fact 10)
  g__law_test := He.glo_ok X G (c.fact 11)
  f_enumerate := He.free_ok X G (c.fact 12)
  g__law_deed := He.glo_ok X G (c.fact 13)
  g__law_few := He.glo_ok X G (c.fact 14)
  g__law_row := He.glo_ok X G (c.fact 15)
  g__law_text := He.glo_ok X G (c.fact 16)
  is_str := (c.fact 17)
  q_Row := isicB_ok (c.fact 18)
  q_First := isicB_ok (c.fact 19)
  q_Mode := isicB_ok (c.fact 20)
  q_Turn := isicB_ok (c.fact 21)
  q_Lead := isicB_ok (c.fact 22)
  q_House := isicB_ok (c.fact 23)
  f_isinstance := He.free_ok X G (c.fact 24)
  f_str := He.free_ok X G (c.fact 25)
  g_BARRED := He.glo_ok X G (c.fact 26)
  t_BARRED := fun H => by have z := He.tupB_ok (c.fact 27 (f := fun K => He.tupB K "BARRED" ((["and", "any", "do", "if", "none", "not", "same", "send", "then", "time", "to", "wipe", "work"] : List PySem.Str).map He.Dv.str))) H; rw [dv_strs] at z; exact z
  s_SMALL := He.str_ok X G (c.fact 28)
  f_all := He.free_ok X G (c.fact 29)
  g_is_name := He.glo_ok X G (c.fact 30)
  x1_InvalidRow := (c.fact 31 (f := fun K => xcB1 XB.value "word" (He.ga K "InvalidRow") K))
  x2_InvalidRow := (c.fact 32 (f := fun K => xcB2 "word" PySem.Challenge.pw_stepsback_k04_texts_of_rows.main.file (He.ga K "InvalidRow") K))
  x3_InvalidRow := (c.fact 33 (f := fun K => xcB3 XB.value "word" (He.ga K "InvalidRow") K))
  x4_InvalidRow := (c.fact 34 (f := fun K => xcB4 "word" (He.ga K "InvalidRow") K))
  x5_InvalidRow := (c.fact 35 (f := fun K => xcB5 (He.ga K "InvalidRow") K))
  g_InvalidRow := He.glo_ok X G (c.fact 36)
  c_First := He.cls_ok (c.fact 37)
  n_First__place := He.noat_ok (c.fact 38)
  k_First := He.mkr_ok (c.fact 39)
  g_First := He.glo_ok X G (c.fact 40)
  g_PROMISES := He.glo_ok X G (c.fact 41)
  t_PROMISES := fun H => by have z := He.tupB_ok (c.fact 42 (f := fun K => He.tupB K "PROMISES" ((["made", "gone"] : List PySem.Str).map He.Dv.str))) H; rw [dv_strs] at z; exact z
  g_is_word := He.glo_ok X G (c.fact 43)
  is_list_tuple := (c.fact 44)
  f_tuple := He.free_ok X G (c.fact 45)
  g_is_sequence := He.glo_ok X G (c.fact 46)
  g_are_names := He.glo_ok X G (c.fact 47)
  g_are_unlike_names := He.glo_ok X G (c.fact 48)
  c_Mode := He.cls_ok (c.fact 49)
  n_Mode__name := He.noat_ok (c.fact 50)
  n_Mode__promise := He.noat_ok (c.fact 51)
  n_Mode__ends := He.noat_ok (c.fact 52)
  k_Mode := He.mkr_ok (c.fact 53)
  g_Mode := He.glo_ok X G (c.fact 54)
  g_WAYS := He.glo_ok X G (c.fact 55)
  t_WAYS := fun H => by have z := He.tupB_ok (c.fact 56 (f := fun K => He.tupB K "WAYS" ((["some", "all", "time"] : List PySem.Str).map He.Dv.str))) H; rw [dv_strs] at z; exact z
  c_Turn := He.cls_ok (c.fact 57)
  n_Turn__mode := He.noat_ok (c.fact 58)
  n_Turn__way := He.noat_ok (c.fact 59)
  n_Turn__places := He.noat_ok (c.fact 60)
  n_Turn__then := He.noat_ok (c.fact 61)
  k_Turn := He.mkr_ok (c.fact 62)
  g_Turn := He.glo_ok X G (c.fact 63)
  c_Lead := He.cls_ok (c.fact 64)
  n_Lead__mode := He.noat_ok (c.fact 65)
  n_Lead__place := He.noat_ok (c.fact 66)
  n_Lead__event := He.noat_ok (c.fact 67)
  n_Lead__then := He.noat_ok (c.fact 68)
  n_Lead__sends := He.noat_ok (c.fact 69)
  k_Lead := He.mkr_ok (c.fact 70)
  g_Lead := He.glo_ok X G (c.fact 71)
  g_PLAIN_EVENTS := He.glo_ok X G (c.fact 72)
  t_PLAIN_EVENTS := fun H => by have z := He.tupB_ok (c.fact 73 (f := fun K => He.tupB K "PLAIN_EVENTS" ((["build", "leave", "work", "wipe"] : List PySem.Str).map He.Dv.str))) H; rw [dv_strs] at z; exact z
  g_PLAIN_TESTS := He.glo_ok X G (c.fact 74)
  t_PLAIN_TESTS := fun H => by have z := He.tupB_ok (c.fact 75 (f := fun K => He.tupB K "PLAIN_TESTS" ((["made", "built"] : List PySem.Str).map He.Dv.str))) H; rw [dv_strs] at z; exact z
  g_is_phase := He.glo_ok X G (c.fact 76)
  g_is_test := He.glo_ok X G (c.fact 77)
  g_PLAIN_DEEDS := He.glo_ok X G (c.fact 78)
  t_PLAIN_DEEDS := fun H => by have z := He.tupB_ok (c.fact 79 (f := fun K => He.tupB K "PLAIN_DEEDS" ((["make", "take", "grip", "free"] : List PySem.Str).map He.Dv.str))) H; rw [dv_strs] at z; exact z
  g_NAMED_DEEDS := He.glo_ok X G (c.fact 80)
  t_NAMED_DEEDS := fun H => by have z := He.tupB_ok (c.fact 81 (f := fun K => He.tupB K "NAMED_DEEDS" ((["mark", "clear", "send"] : List PySem.Str).map He.Dv.str))) H; rw [dv_strs] at z; exact z
  g_is_deed := He.glo_ok X G (c.fact 82)
  c_House := He.cls_ok (c.fact 83)
  n_House__event := He.noat_ok (c.fact 84)
  n_House__tests := He.noat_ok (c.fact 85)
  n_House__deeds := He.noat_ok (c.fact 86)
  k_House := He.mkr_ok (c.fact 87)
  g_House := He.glo_ok X G (c.fact 88)
  g__law_made := He.glo_ok X G (c.fact 89)
  g_joined := He.glo_ok X G (c.fact 90)
  g_lead_in := He.glo_ok X G (c.fact 91)
  g_parted := He.glo_ok X G (c.fact 92)
  g_house_in := He.glo_ok X G (c.fact 93)
  g_row_in := He.glo_ok X G (c.fact 94)
  em_20_20 := (c.fact 95)
  m_House____str__ := He.meth_ok (c.fact 96)
  m_Lead____str__ := He.meth_ok (c.fact 97)
  m_Turn____str__ := He.meth_ok (c.fact 98)
  m_Mode____str__ := He.meth_ok (c.fact 99)
  m_First____str__ := He.meth_ok (c.fact 100)
  x1_InvalidText := (c.fact 101 (f := fun K => xcB1 XB.value "at" (He.ga K "InvalidText") K))
  x2_InvalidText := (c.fact 102 (f := fun K => xcB2 "at" PySem.Challenge.pw_stepsback_k04_texts_of_rows.main.file (He.ga K "InvalidText") K))
  x3_InvalidText := (c.fact 103 (f := fun K => xcB3 XB.value "at" (He.ga K "InvalidText") K))
  x4_InvalidText := (c.fact 104 (f := fun K => xcB4 "at" (He.ga K "InvalidText") K))
  x5_InvalidText := (c.fact 105 (f := fun K => xcB5 (He.ga K "InvalidText") K))
  g_InvalidText := He.glo_ok X G (c.fact 106)
  g_Row := He.glo_ok X G (c.fact 107)
  cr_Row := creadB_ok (c.fact 108)
  cm_Row__read := cmB_ok (c.fact 109)
  is_Row := (c.fact 110)
  ql_Row_1_2_3_4_5 := eqLB_ok (c.fact 111)
  is_First := (c.fact 112)
  is_Mode := (c.fact 113)
  is_Turn := (c.fact 114)
  is_Lead := (c.fact 115)
  is_House := (c.fact 116)
  g__law_sort := He.glo_ok X G (c.fact 117)
  d_Mode___init___1 := nilAt_ok (c.fact 118)
  d_Lead___init___0 := nilAt_ok (c.fact 119)
  d_House___init___0 := nilAt_ok (c.fact 120)
  d_House___init___1 := nilAt_ok (c.fact 121)
  g_law := He.glo_ok X G (c.fact 122)
  xc_InvalidRow := xcAll (fl := PySem.Challenge.pw_stepsback_k04_texts_of_rows.main.file) (by rfl) (by decide +kernel) (c.fact 31 (f := fun K => xcB1 XB.value "word" (He.ga K "InvalidRow") K)) (c.fact 32 (f := fun K => xcB2 "word" PySem.Challenge.pw_stepsback_k04_texts_of_rows.main.file (He.ga K "InvalidRow") K)) (c.fact 33 (f := fun K => xcB3 XB.value "word" (He.ga K "InvalidRow") K)) (c.fact 34 (f := fun K => xcB4 "word" (He.ga K "InvalidRow") K)) (c.fact 35 (f := fun K => xcB5 (He.ga K "InvalidRow") K))
  xc_InvalidText := xcAll (fl := PySem.Challenge.pw_stepsback_k04_texts_of_rows.main.file) (by rfl) (by decide +kernel) (c.fact 101 (f := fun K => xcB1 XB.value "at" (He.ga K "InvalidText") K)) (c.fact 102 (f := fun K => xcB2 "at" PySem.Challenge.pw_stepsback_k04_texts_of_rows.main.file (He.ga K "InvalidText") K)) (c.fact 103 (f := fun K => xcB3 XB.value "at" (He.ga K "InvalidText") K)) (c.fact 104 (f := fun K => xcB4 "at" (He.ga K "InvalidText") K)) (c.fact 105 (f := fun K => xcB5 (He.ga K "InvalidText") K))
  d__law_deal := c.def_ 0 (d := dd__law_deal)
  d__law_draw := c.def_ 1 (d := dd__law_draw)
  d__law_mixed := c.def_ 2 (d := dd__law_mixed)
  d__law_pool := c.def_ 3 (d := dd__law_pool)
  d__law_names := c.def_ 4 (d := dd__law_names)
  d__law_pick := c.def_ 5 (d := dd__law_pick)
  d__law_test := c.def_ 6 (d := dd__law_test)
  d__law_few := c.def_ 7 (d := dd__law_few)
  d__law_deed := c.def_ 8 (d := dd__law_deed)
  d__law_row := c.def_ 9 (d := dd__law_row)
  d__law_text := c.def_ 10 (d := dd__law_text)
  d_is_name := c.def_ 11 (d := dd_is_name)
  d_First___init__ := c.def_ 12 (d := dd_First___init__)
  d_is_word := c.def_ 13 (d := dd_is_word)
  d_is_sequence := c.def_ 14 (d := dd_is_sequence)
  d_are_names := c.def_ 15 (d := dd_are_names)
  d_are_unlike_names := c.def_ 16 (d := dd_are_unlike_names)
  d_Mode___init__ := c.def_ 17 (d := dd_Mode___init__)
  d_Turn___init__ := c.def_ 18 (d := dd_Turn___init__)
  d_Lead___init__ := c.def_ 19 (d := dd_Lead___init__)
  d_is_phase := c.def_ 20 (d := dd_is_phase)
  d_is_test := c.def_ 21 (d := dd_is_test)
  d_is_deed := c.def_ 22 (d := dd_is_deed)
  d_House___init__ := c.def_ 23 (d := dd_House___init__)
  d__law_made := c.def_ 24 (d := dd__law_made)
  d_joined := c.def_ 25 (d := dd_joined)
  d_lead_in := c.def_ 26 (d := dd_lead_in)
  d_parted := c.def_ 27 (d := dd_parted)
  d_house_in := c.def_ 28 (d := dd_house_in)
  d_row_in := c.def_ 29 (d := dd_row_in)
  d_House___str__ := c.def_ 30 (d := dd_House___str__)
  d_Lead___str__ := c.def_ 31 (d := dd_Lead___str__)
  d_Turn___str__ := c.def_ 32 (d := dd_Turn___str__)
  d_Mode___str__ := c.def_ 33 (d := dd_Mode___str__)
  d_First___str__ := c.def_ 34 (d := dd_First___str__)
  d_Row_read := c.def_ 35 (d := dd_Row_read)
  d_Row___eq__ := c.def_ 36 (d := dd_Row___eq__)
  d__law_sort := c.def_ 37 (d := dd__law_sort)
  d_law := c.def_ 38 (d := dd_law)
end Lk04
open PySem PySem.W PySem.Calls PyProof.Rows
theorem Lk04.holds (plain : ∀ ns : List Int, ns.length ≤ 63 → ∃ as, Lk04.F_law [.t (.scr ns)] = .ret (.t (.bl true)) as) : PySem.Challenge.rw_stepsback_k04_texts_of_rows.Holds := by
  w_on; o_law
  refine HandSHeadRun.head_any (r := OpenLaw.row PySem.Challenge.rw_stepsback_k04_texts_of_rows) (q := view (OpenLaw.row PySem.Challenge.rw_stepsback_k04_texts_of_rows).prog [47]) (H := Lk04.hk) (ob := Lk04.ob) (M := 6000) (loose := Lk04.nms) (d := HandSHeadRun.topDef (OpenLaw.row PySem.Challenge.rw_stepsback_k04_texts_of_rows).prog 47) (kwd := []) Lk04.ob_eq
    (by kernel_rfl) (fun s => by kernel_rfl) Lk04.run (by kernel_rfl) (by kernel_rfl) (by kernel_rfl) (by rfl) (by first | assumption | decide +kernel) (by decide +kernel) ⟨rfl, rfl, rfl, rfl, rfl, by decide +kernel⟩ ?hw ?hc
  case hw => w_witness2
  case hc =>
    refine TreeL.walkG (l := PySem.Challenge.rw_stepsback_k04_texts_of_rows) (n := 63) (k := 10) (x := "_law_script") rfl (by decide) (by kernel_rfl) (TreeL.room_top ⟨rfl, by decide, by decide⟩) ?F
    intro w mg fa h Y G hmg0
    obtain ⟨K, KX, c⟩ := Y
    have hmg : mg ("law" : PySem.Str) = some (.ref fa) := by
      have e : (HandSHeadRun.topDef (OpenLaw.row PySem.Challenge.rw_stepsback_k04_texts_of_rows).prog 47).name = ("law" : PySem.Str) := by kernel_rfl
      rw [← e]
      exact hmg0
    have fx := Lk04.fx_of KX G c
    obtain ⟨fd, D⟩ := fx.d_law
    have e := hmg.symm.trans fx.g_law
    cases e
    exact ⟨K, fd, TreeL.tcN K Lk04.cs, Lk04.F_law, KX, fun s u => L2.FunD.bindsA (ps := ["_law_script"]) D (fun _ _ _ _ _ _ us hl => match us, hl with | [_], _ => rfl) s [u] rfl, rfl, plain, fun base _ _ => Lk04.ok_law fx D⟩
end
theorem PySem.Challenge.cw_stepsback_k04_texts_of_rows_holds : PySem.Challenge.rw_stepsback_k04_texts_of_rows.Holds := by
  exact Lk04.holds Lk04.plain
