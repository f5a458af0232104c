import PyProof.Rows.All
import Wide.All
import OpenK.AllK
import Wide.FinOn
import HandS.ForMost
import HandS.ForExc
import HandS.Defaults
import HandS.Flow
import HandS.Star
import HandS.Zip
import HandS.ExcOwn
import HandS.CallSlots
import HandS.List
import HandS.Text
import HandS.Deep
import HandS.Wide
import HandS.TupAny
import HandS.RaiseMore
import HandS.IsInst
import HandS.Iter
import HandS.Comp
import HandS.Style
import PyProof.CollectIter
import PyProof.RulesMatchSeq
import PyProof.Rows.TupIter
import PyProof.Rows.MatchSeqLen
import HandS.Dict
import HandS.OwnEq
import OpenK.KOps
import OpenK.KMeth
import KE.KCallOwn
import PyProof.InstEq
import HandS.ClsMeth
import HandS.Property
import PyProof.ReprRoads
import PyProof.CallFns
import HandS.Ends
import HandS.HeadEnd
import HandS.Head2
import HandS.HeadHook2
import KE.GoesEnum
import HandS.HeadNt
import HandS.HeadWalk
import KE.KExcSuper
import HandS.ExcInit
import HandS.ExcCtx
import HandS.Hot
import HandS.HotCalls
import HandS.RaiseFrom
import HandS.ExcField
import HandS.TryOnly
import KE.KExcIs
import HandS.StrMore
import HandS.FStr
import HandS.DictComp
import HandS.WordsDict
import KE.KIsAll
import HandS.Head0
import HandS.Head1
import PySem.Challenge.RW_stepsback_k11_weavings_put_together
set_option Elab.async false
set_option linter.all false
set_option maxRecDepth 100000
set_option maxHeartbeats 4000000
section
/-! TL1: values as trees (PV), what stands for a tree in the abstract heap (Rep), steps of the heap that leave what is known (Step), slots (RS). -/
namespace TreeL
open PySem PySem.Spec PyProof.Rows L2

/-- a value as a tree -/
inductive PV where
  | non | bl (b : Bool) | int (i : Int) | str (x : Str)
  | lst (xs : List PV) | tup (xs : List PV)
  | ins (c : Nat) (fs : List (Str × PV))
  | dct (t : Bool) (kvs : List (PV × PV))
  | scr (ns : List Int)
  | cls (k : Nat)
  | slc (lo hi : Option Int)
  deriving Inhabited

/-- a text that the model may hold -/
def StrG (x : Str) : Prop := x.length ≤ sizeLine ∧ PyData.strOk x = true
/-- a key of a dict (an int or a text; a tuple of such) as a tree -/
def keyP : Key → PV
  | .inl i => .int i
  | .inr x => .str x

mutual
def PV.beq : PV → PV → Bool
  | .non, .non => true
  | .bl a, .bl b => a == b
  | .int a, .int b => a == b
  | .str a, .str b => a == b
  | .lst a, .lst b => PV.beqL a b
  | .tup a, .tup b => PV.beqL a b
  | .ins k a, .ins l b => k == l && PV.beqF a b
  | .dct k a, .dct l b => k == l && PV.beqP a b
  | .scr a, .scr b => a == b
  | .cls a, .cls b => a == b
  | .slc a b, .slc x y => a == x && b == y
  | _, _ => false
def PV.beqL : List PV → List PV → Bool
  | [], [] => true
  | x :: xs, y :: ys => PV.beq x y && PV.beqL xs ys
  | _, _ => false
def PV.beqF : List (Str × PV) → List (Str × PV) → Bool
  | [], [] => true
  | (f, x) :: xs, (g, y) :: ys => f == g && PV.beq x y && PV.beqF xs ys
  | _, _ => false
def PV.beqP : List (PV × PV) → List (PV × PV) → Bool
  | [], [] => true
  | (f, x) :: xs, (g, y) :: ys => PV.beq f g && PV.beq x y && PV.beqP xs ys
  | _, _ => false
end
mutual
theorem PV.beq_self : ∀ x : PV, PV.beq x x = true
  | .non => by simp [PV.beq]
  | .bl a => by simp [PV.beq]
  | .int a => by simp [PV.beq]
  | .str a => by simp [PV.beq]
  | .lst a => by rw [PV.beq]; exact PV.beqL_self a
  | .tup a => by rw [PV.beq]; exact PV.beqL_self a
  | .ins k a => by rw [PV.beq, PV.beqF_self a]; simp
  | .dct k a => by rw [PV.beq, PV.beqP_self a]; simp
  | .scr a => by simp [PV.beq]
  | .cls a => by simp [PV.beq]
  | .slc a b => by simp [PV.beq]
theorem PV.beqL_self : ∀ x : List PV, PV.beqL x x = true
  | [] => by simp [PV.beqL]
  | x :: xs => by rw [PV.beqL, PV.beq_self x, PV.beqL_self xs]; rfl
theorem PV.beqF_self : ∀ x : List (Str × PV), PV.beqF x x = true
  | [] => by simp [PV.beqF]
  | (f, x) :: xs => by rw [PV.beqF, PV.beq_self x, PV.beqF_self xs]; simp
theorem PV.beqP_self : ∀ x : List (PV × PV), PV.beqP x x = true
  | [] => by simp [PV.beqP]
  | (f, x) :: xs => by rw [PV.beqP, PV.beq_self f, PV.beq_self x, PV.beqP_self xs]; rfl
end
mutual
theorem PV.beq_eq : ∀ {x y : PV}, PV.beq x y = true → x = y
  | .non, y, h => by cases y <;> first | rfl | simp [PV.beq] at h
  | .bl a, y, h => by cases y <;> simp [PV.beq] at h; rw [h]
  | .int a, y, h => by cases y <;> simp [PV.beq] at h; rw [h]
  | .str a, y, h => by cases y <;> simp [PV.beq] at h; rw [h]
  | .lst a, y, h => by
    cases y <;> simp [PV.beq] at h
    rw [PV.beqL_eq h]
  | .tup a, y, h => by
    cases y <;> simp [PV.beq] at h
    rw [PV.beqL_eq h]
  | .ins k a, y, h => by
    cases y <;> simp [PV.beq] at h
    rw [h.1, PV.beqF_eq h.2]
  | .dct k a, y, h => by
    cases y <;> simp [PV.beq] at h
    rw [h.1, PV.beqP_eq h.2]
  | .scr a, y, h => by cases y <;> simp [PV.beq] at h; rw [h]
  | .cls a, y, h => by cases y <;> simp [PV.beq] at h; rw [h]
  | .slc a b, y, h => by cases y <;> simp [PV.beq] at h; rw [h.1, h.2]
theorem PV.beqL_eq : ∀ {x y : List PV}, PV.beqL x y = true → x = y
  | [], [], _ => rfl
  | [], _ :: _, h => by simp [PV.beqL] at h
  | _ :: _, [], h => by simp [PV.beqL] at h
  | x :: xs, y :: ys, h => by
    simp [PV.beqL] at h
    rw [PV.beq_eq h.1, PV.beqL_eq h.2]
theorem PV.beqF_eq : ∀ {x y : List (Str × PV)}, PV.beqF x y = true → x = y
  | [], [], _ => rfl
  | [], _ :: _, h => by simp [PV.beqF] at h
  | _ :: _, [], h => by simp [PV.beqF] at h
  | (f, x) :: xs, (g, y) :: ys, h => by
    simp [PV.beqF] at h
    rw [h.1.1, PV.beq_eq h.1.2, PV.beqF_eq h.2]
theorem PV.beqP_eq : ∀ {x y : List (PV × PV)}, PV.beqP x y = true → x = y
  | [], [], _ => rfl
  | [], _ :: _, h => by simp [PV.beqP] at h
  | _ :: _, [], h => by simp [PV.beqP] at h
  | (f, x) :: xs, (g, y) :: ys, h => by
    simp [PV.beqP] at h
    rw [PV.beq_eq h.1.1, PV.beq_eq h.1.2, PV.beqP_eq h.2]
end
/-- what is fixed: the addresses of the classes by number, the written part -/
structure TC where
  C : Nat → Addr
  K : PySem.W.Frag

mutual
def Rep (c : TC) (G : Hp) : PV → V → Prop
  | .non, v => v = .non
  | .bl b, v => v = .bl b
  | .int i, v => v = .int i
  | .str x, v => v = .str x ∧ StrG x
  | .lst xs, v => ∃ p vs, v = .ref p ∧ G p = some (.lst vs) ∧ RepL c G xs vs
  | .tup xs, v => ∃ p vs, v = .ref p ∧ SqT c.K G p vs ∧ RepL c G xs vs
  | .ins k fs, v => ∃ p dx gs, v = .ref p ∧ G p = some (.ins (c.C k) dx gs) ∧ RepF c G fs gs
  | .dct t kvs, v => ∃ p, v = .ref p ∧
      ((t = false ∧ ∃ ks, G p = some (.dK ks) ∧ RepK c G kvs ks) ∨ (t = true ∧ ∃ ks, G p = some (.dT ks) ∧ RepT c G kvs ks))
  | .scr ns, v => ∃ p, v = .ref p ∧ SqL c.K G p (ns.map V.int)
  | .cls k, v => v = .ref (c.C k)
  | .slc lo hi, v => ∃ p vl vu, v = .ref p ∧ IsPart vl lo ∧ IsPart vu hi ∧ G p = some (.frz { cls := .type "slice", data := .fields #[vl, vu, .none] } (.own p))
def RepL (c : TC) (G : Hp) : List PV → List V → Prop
  | [], vs => vs = []
  | x :: xs, vs => ∃ v r, vs = v :: r ∧ Rep c G x v ∧ RepL c G xs r
def RepF (c : TC) (G : Hp) : List (Str × PV) → List (Str × V) → Prop
  | [], vs => vs = []
  | (f, x) :: xs, vs => ∃ v r, vs = (f, v) :: r ∧ Rep c G x v ∧ RepF c G xs r
def RepK (c : TC) (G : Hp) : List (PV × PV) → List (Key × V) → Prop
  | [], vs => vs = []
  | (k, x) :: xs, vs => ∃ q v r, vs = (q, v) :: r ∧ k = keyP q ∧ Rep c G x v ∧ RepK c G xs r
def RepT (c : TC) (G : Hp) : List (PV × PV) → List (List Key × V) → Prop
  | [], vs => vs = []
  | (k, x) :: xs, vs => ∃ q v r, vs = (q, v) :: r ∧ k = .tup (q.map keyP) ∧ Rep c G x v ∧ RepT c G xs r
end

/-- what is known stays -/
def Sub (G H : Hp) : Prop := ∀ a o, G a = some o → H a = some o
theorem Sub.refl (G : Hp) : Sub G G := fun _ _ h => h
theorem Sub.trans {G H I : Hp} (a : Sub G H) (b : Sub H I) : Sub G I := fun x o h => b x o (a x o h)
theorem Sub.rd {G H : Hp} (e : Sub G H) {a : Addr} {u : HO} (h : Rd G a u) : Rd H a u := by
  rcases h with h | ⟨o, h⟩
  · exact Or.inl (e _ _ h)
  · exact Or.inr ⟨o, e _ _ h⟩
theorem Sub.sqL {K : PySem.W.Frag} {G H : Hp} (e : Sub G H) {a : Addr} {xs : List V} (h : SqL K G a xs) : SqL K H a xs := by
  rcases h with h | h
  · exact Or.inl (e.rd h)
  · exact Or.inr h
theorem Sub.sqT {K : PySem.W.Frag} {G H : Hp} (e : Sub G H) {a : Addr} {xs : List V} (h : SqT K G a xs) : SqT K H a xs := by
  rcases h with h | h
  · exact Or.inl (e.rd h)
  · exact Or.inr h

section
variable {c : TC} {G H : Hp}
mutual
theorem Rep.mono (e : Sub G H) : ∀ {t : PV} {v : V}, Rep c G t v → Rep c H t v
  | .non, _, h => h
  | .bl _, _, h => h
  | .int _, _, h => h
  | .str _, _, h => h
  | .lst xs, _, ⟨p, vs, a, b, r⟩ => ⟨p, vs, a, e _ _ b, RepL.mono e r⟩
  | .tup xs, _, ⟨p, vs, a, b, r⟩ => ⟨p, vs, a, e.sqT b, RepL.mono e r⟩
  | .ins k fs, _, ⟨p, dx, gs, a, b, r⟩ => ⟨p, dx, gs, a, e _ _ b, RepF.mono e r⟩
  | .dct t kvs, _, ⟨p, a, h⟩ => ⟨p, a, match h with
      | .inl ⟨t, ks, b, r⟩ => .inl ⟨t, ks, e _ _ b, RepK.mono e r⟩
      | .inr ⟨t, ks, b, r⟩ => .inr ⟨t, ks, e _ _ b, RepT.mono e r⟩⟩
  | .scr _, _, ⟨p, a, h⟩ => ⟨p, a, e.sqL h⟩
  | .cls _, _, h => h
  | .slc _ _, _, ⟨p, vl, vu, a, b1, b2, g⟩ => ⟨p, vl, vu, a, b1, b2, e _ _ g⟩
theorem RepL.mono (e : Sub G H) : ∀ {t : List PV} {v : List V}, RepL c G t v → RepL c H t v
  | [], _, h => h
  | _ :: _, _, ⟨v, r, a, b, d⟩ => ⟨v, r, a, Rep.mono e b, RepL.mono e d⟩
theorem RepF.mono (e : Sub G H) : ∀ {t : List (Str × PV)} {v : List (Str × V)}, RepF c G t v → RepF c H t v
  | [], _, h => h
  | (_, _) :: _, _, ⟨v, r, a, b, d⟩ => ⟨v, r, a, Rep.mono e b, RepF.mono e d⟩
theorem RepK.mono (e : Sub G H) : ∀ {t : List (PV × PV)} {v : List (Key × V)}, RepK c G t v → RepK c H t v
  | [], _, h => h
  | (_, _) :: _, _, ⟨q, v, r, a, k, b, d⟩ => ⟨q, v, r, a, k, Rep.mono e b, RepK.mono e d⟩
theorem RepT.mono (e : Sub G H) : ∀ {t : List (PV × PV)} {v : List (List Key × V)}, RepT c G t v → RepT c H t v
  | [], _, h => h
  | (_, _) :: _, _, ⟨q, v, r, a, k, b, d⟩ => ⟨q, v, r, a, k, Rep.mono e b, RepT.mono e d⟩
end
theorem RepL.length : ∀ {t : List PV} {v : List V}, RepL c G t v → v.length = t.length
  | [], _, h => by cases h; rfl
  | _ :: _, _, ⟨v, r, a, _, d⟩ => by subst a; simp [RepL.length d]
theorem RepL.get : ∀ {t : List PV} {v : List V} {i : Nat} {x : PV}, RepL c G t v → t[i]? = some x → ∃ u, v[i]? = some u ∧ Rep c G x u
  | [], _, _, _, _, e => by simp at e
  | _ :: _, _, 0, x, ⟨v, r, a, b, d⟩, e => by
    subst a
    simp at e
    subst e
    exact ⟨v, rfl, b⟩
  | _ :: ts, _, i + 1, x, ⟨v, r, a, b, d⟩, e => by
    subst a
    obtain ⟨u, h1, h2⟩ := RepL.get (i := i) d (by simpa using e)
    exact ⟨u, by simpa using h1, h2⟩
theorem RepL.getV : ∀ {t : List PV} {v : List V} {i : Nat} {u : V}, RepL c G t v → v[i]? = some u → ∃ x, t[i]? = some x ∧ Rep c G x u
  | [], _, _, _, h, e => by cases h; simp at e
  | x :: _, _, 0, u, ⟨v, r, a, b, d⟩, e => by
    subst a
    simp at e
    subst e
    exact ⟨x, rfl, b⟩
  | _ :: ts, _, i + 1, x, ⟨v, r, a, b, d⟩, e => by
    subst a
    obtain ⟨u, h1, h2⟩ := RepL.getV (i := i) d (by simpa using e)
    exact ⟨u, by simpa using h1, h2⟩
theorem RepL.append : ∀ {t t' : List PV} {v v' : List V}, RepL c G t v → RepL c G t' v' → RepL c G (t ++ t') (v ++ v')
  | [], _, _, _, h, h' => by cases h; exact h'
  | _ :: _, _, _, _, ⟨v, r, a, b, d⟩, h' => by subst a; exact ⟨v, r ++ _, rfl, b, RepL.append d h'⟩
theorem RepL.take : ∀ {t : List PV} {v : List V} (n : Nat), RepL c G t v → RepL c G (t.take n) (v.take n)
  | _, _, 0, _ => by simp [RepL]
  | [], _, n + 1, h => by cases h; simp [RepL]
  | _ :: _, _, n + 1, ⟨v, r, a, b, d⟩ => by subst a; exact ⟨v, _, rfl, b, RepL.take n d⟩
theorem RepL.drop : ∀ {t : List PV} {v : List V} (n : Nat), RepL c G t v → RepL c G (t.drop n) (v.drop n)
  | _, _, 0, h => by simpa using h
  | [], _, n + 1, h => by cases h; simp [RepL]
  | _ :: _, _, n + 1, ⟨v, r, a, b, d⟩ => by subst a; simpa using RepL.drop n d
theorem RepL.one {t : PV} {v : V} (h : Rep c G t v) : RepL c G [t] [v] := ⟨v, [], rfl, h, rfl⟩
theorem RepL.nil : RepL c G [] [] := rfl
theorem RepL.cons {t : PV} {v : V} {ts : List PV} {vs : List V} (h : Rep c G t v) (r : RepL c G ts vs) : RepL c G (t :: ts) (v :: vs) := ⟨v, vs, rfl, h, r⟩
theorem RepL.reverse : ∀ {t : List PV} {v : List V}, RepL c G t v → RepL c G t.reverse v.reverse
  | [], _, h => by cases h; exact RepL.nil
  | _ :: _, _, ⟨v, r, a, b, d⟩ => by
    subst a
    rw [List.reverse_cons, List.reverse_cons]
    exact (RepL.reverse d).append (RepL.one b)
theorem RepL.set : ∀ {t : List PV} {v : List V} (i : Nat) {x : PV} {u : V}, RepL c G t v → Rep c G x u → RepL c G (t.set i x) (v.set i u)
  | [], _, _, _, _, h, _ => by cases h; exact RepL.nil
  | _ :: _, _, 0, _, u, ⟨v, r, a, b, d⟩, h => by subst a; exact ⟨u, r, rfl, h, d⟩
  | _ :: _, _, i + 1, _, _, ⟨v, r, a, b, d⟩, h => by subst a; exact ⟨v, _, rfl, b, RepL.set i d h⟩
theorem RepL.eraseIdx : ∀ {t : List PV} {v : List V} (i : Nat), RepL c G t v → RepL c G (t.eraseIdx i) (v.eraseIdx i)
  | [], _, _, h => by cases h; exact RepL.nil
  | _ :: _, _, 0, ⟨v, r, a, b, d⟩ => by subst a; exact d
  | _ :: _, _, i + 1, ⟨v, r, a, b, d⟩ => by subst a; exact ⟨v, _, rfl, b, RepL.eraseIdx i d⟩
theorem RepF.lookup : ∀ {t : List (Str × PV)} {v : List (Str × V)} {f : Str} {x : PV}, RepF c G t v → t.lookup f = some x → ∃ u, v.lookup f = some u ∧ Rep c G x u
  | [], _, _, _, _, e => by simp at e
  | (g, y) :: _, _, f, x, ⟨v, r, a, b, d⟩, e => by
    subst a
    rw [List.lookup_cons] at e
    rw [List.lookup_cons]
    cases h : f == g with
    | true =>
      rw [h] at e
      simp at e
      subst e
      exact ⟨v, rfl, b⟩
    | false =>
      rw [h] at e
      exact RepF.lookup d e
theorem RepF.lookupN : ∀ {t : List (Str × PV)} {v : List (Str × V)} {f : Str}, RepF c G t v → t.lookup f = none → v.lookup f = none
  | [], _, _, h, _ => by cases h; rfl
  | (g, y) :: _, _, f, ⟨v, r, a, b, d⟩, e => by
    subst a
    rw [List.lookup_cons] at e
    rw [List.lookup_cons]
    cases h : f == g with
    | true =>
      rw [h] at e
      simp at e
    | false =>
      rw [h] at e
      exact RepF.lookupN d e
theorem RepF.length : ∀ {t : List (Str × PV)} {v : List (Str × V)}, RepF c G t v → v.length = t.length
  | [], _, h => by cases h; rfl
  | (_, _) :: _, _, ⟨v, r, a, _, d⟩ => by subst a; simp [RepF.length d]
end

/-! ### steps -/
/-- from (H, G) to (H1, G1): H what stands, G what is known for good; A: the addresses that may change -/
structure Step (A : List Addr) (H G H1 G1 : Hp) : Prop where
  sub : Sub G G1
  sub1 : Sub G1 H1
  new : ∀ a o, G1 a = some o → G a = some o ∨ H a = none
  keep : ∀ a o, a ∉ A → H a = some o → H1 a = some o
  there : ∀ a, H1 a = none → H a = none
theorem Step.refl {A : List Addr} {H G : Hp} (h : Sub G H) : Step A H G H G := ⟨Sub.refl _, h, fun _ _ e => .inl e, fun _ _ _ e => e, fun _ e => e⟩
theorem Step.trans {A B : List Addr} {H G H1 G1 H2 G2 : Hp} (a : Step A H G H1 G1) (b : Step B H1 G1 H2 G2) (hB : ∀ x ∈ B, x ∈ A ∨ H x = none) : Step A H G H2 G2 where
  sub := a.sub.trans b.sub
  sub1 := b.sub1
  new := fun x o e => by
    rcases b.new x o e with e | e
    · exact a.new x o e
    · exact .inr (a.there x e)
  keep := fun x o hx e => by
    refine b.keep x o (fun hb => ?_) (a.keep x o hx e)
    rcases hB x hb with z | z
    · exact hx z
    · rw [e] at z; cases z
  there := fun x e => a.there x (b.there x e)
theorem Step.trans0 {A : List Addr} {H G H1 G1 H2 G2 : Hp} (a : Step A H G H1 G1) (b : Step [] H1 G1 H2 G2) : Step A H G H2 G2 := a.trans b fun _ z => nomatch z
theorem Step.wide {A B : List Addr} {H G H1 G1 : Hp} (a : Step A H G H1 G1) (h : ∀ x ∈ A, x ∈ B) : Step B H G H1 G1 := ⟨a.sub, a.sub1, a.new, fun x o hx e => a.keep x o (fun z => hx (h x z)) e, a.there⟩
/-- a new object that is known for good -/
theorem Step.alloc {H G : Hp} {p : Addr} {o : HO} (h : Sub G H) (hp : H p = none) : Step [] H G (upd H p o) (upd G p o) where
  sub := fun a u e => by
    have ne : a ≠ p := fun z => by rw [z] at e; rw [h _ _ e] at hp; cases hp
    rw [upd_ne ne]; exact e
  sub1 := fun a u e => by
    by_cases z : a = p
    · rw [z, upd_same] at e
      rw [z, upd_same]; exact e
    · rw [upd_ne z] at e
      rw [upd_ne z]; exact h _ _ e
  new := fun a u e => by
    by_cases z : a = p
    · rw [z]; exact .inr hp
    · rw [upd_ne z] at e
      exact .inl e
  keep := fun a u _ e => by rw [upd_ne (ne_of_none e hp)]; exact e
  there := fun a e => by
    by_cases z : a = p
    · rw [z, upd_same] at e; cases e
    · rw [upd_ne z] at e; exact e
/-- a new object of our own -/
theorem Step.allocO {H G : Hp} {p : Addr} {o : HO} (h : Sub G H) (hp : H p = none) : Step [] H G (upd H p o) G where
  sub := Sub.refl _
  sub1 := fun a u e => by rw [upd_ne (ne_of_none (h _ _ e) hp)]; exact h _ _ e
  new := fun a u e => .inl e
  keep := fun a u _ e => by rw [upd_ne (ne_of_none e hp)]; exact e
  there := fun a e => by
    by_cases z : a = p
    · rw [z, upd_same] at e; cases e
    · rw [upd_ne z] at e; exact e
/-- an object of ours is written -/
theorem Step.write {H G : Hp} {p : Addr} {o o' : HO} (h : Sub G H) (hp : G p = none) (hq : H p = some o') : Step [p] H G (upd H p o) G where
  sub := Sub.refl _
  sub1 := fun a u e => by
    have ne : a ≠ p := fun z => by rw [z, hp] at e; cases e
    rw [upd_ne ne]; exact h _ _ e
  new := fun a u e => .inl e
  keep := fun a u ha e => by rw [upd_ne (fun z => ha (by rw [z]; exact List.mem_singleton.mpr rfl))]; exact e
  there := fun a e => by
    by_cases z : a = p
    · rw [z, upd_same] at e; cases e
    · rw [upd_ne z] at e; exact e
/-- an object of ours is known for good from now on -/
theorem Step.freeze {H G : Hp} {p : Addr} {o : HO} (h : Sub G H) (hp : G p = none) (hq : H p = some o) : Sub G (upd G p o) ∧ Sub (upd G p o) H := by
  constructor
  · intro a u e
    have ne : a ≠ p := fun z => by rw [z, hp] at e; cases e
    rw [upd_ne ne]; exact e
  · intro a u e
    by_cases z : a = p
    · rw [z, upd_same] at e
      rw [z, hq]; exact e
    · rw [upd_ne z] at e
      exact h _ _ e

end TreeL
end
section
/-! TL2: slots, states (RS), results (RE, Sat), readings by tree functions (TEof, TTof, TAof, TSof). -/
namespace TreeL
open PySem PySem.Spec PyProof.Rows L2

/-- an object that one slot owns, and that may change -/
inductive OS where
  | lst (xs : List PV)
  | dct (t : Bool) (kvs : List (PV × PV))
  | ins (k : Nat) (fs : List (Str × PV))
  | boxD (great : List Int) (fs : List (Str × Int))
  | boxL (great : List Int) (m : Int)
  | lof (xs : List PV) (ys : List PV)
  deriving Inhabited
inductive Arg where
  | t (t : PV) | ow (o : OS)
  deriving Inhabited
abbrev En := List (Option Arg)
/-- an exception: its class, its fields -/
structure EX where
  k : Nat
  fs : List (Str × PV)
/-- what an expression gives: a tree, or the object of a slot -/
inductive Vl where
  | tr (t : PV) | sl (i : Nat)
  deriving Inhabited

/-! ### results -/
inductive RE (α : Type) where
  | ok (a : α) (e : En) | exc (x : EX) (e : En) | bad
@[simp] def RE.bind {α β : Type} (r : RE α) (f : α → En → RE β) : RE β := match r with
  | .ok a e => f a e
  | .exc x e => .exc x e
  | .bad => .bad
def RE.Sat {α : Type} (P : α → En → Prop) (W : EX → En → Prop) : RE α → Prop
  | .ok a e => P a e
  | .exc x e => W x e
  | .bad => False
theorem Sat_bind {α β : Type} {r : RE α} {f : α → En → RE β} {P : β → En → Prop} {W : EX → En → Prop} : (r.bind f).Sat P W ↔ r.Sat (fun a e => (f a e).Sat P W) W := by
  cases r <;> rfl
theorem Sat_mono {α : Type} {r : RE α} {P P' : α → En → Prop} {W W' : EX → En → Prop} (h : r.Sat P W) (hP : ∀ a e, P a e → P' a e) (hW : ∀ x e, W x e → W' x e) : r.Sat P' W' := by
  cases r with
  | ok a e => exact hP _ _ h
  | exc x e => exact hW _ _ h
  | bad => exact h
@[simp] def ofO {α : Type} (o : Option α) (e : En) : RE α := match o with
  | some a => .ok a e
  | none => .bad
theorem Sat_ofO {α : Type} {o : Option α} {e : En} {P : α → En → Prop} {W : EX → En → Prop} : (ofO o e).Sat P W ↔ ∃ a, o = some a ∧ P a e := by
  cases o with
  | none => exact ⟨fun h => h.elim, fun ⟨_, e, _⟩ => nomatch e⟩
  | some a => exact ⟨fun h => ⟨a, rfl, h⟩, fun ⟨_, e, h⟩ => by cases e; exact h⟩

/-! ### what stands in the heap now, of parts that are known for good -/
def WRep (c : TC) (G H : Hp) : PV → V → Prop
  | .lst xs, v => ∃ p vs, v = .ref p ∧ H p = some (.lst vs) ∧ RepL c G xs vs
  | .tup xs, v => ∃ p vs, v = .ref p ∧ SqT c.K G p vs ∧ RepL c G xs vs
  | .ins k fs, v => ∃ p dx gs, v = .ref p ∧ H p = some (.ins (c.C k) dx gs) ∧ RepF c G fs gs
  | .dct t kvs, v => ∃ p, v = .ref p ∧
      ((t = false ∧ ∃ ks, H p = some (.dK ks) ∧ RepK c G kvs ks) ∨ (t = true ∧ ∃ ks, H p = some (.dT ks) ∧ RepT c G kvs ks))
  | .scr ns, v => ∃ p, v = .ref p ∧ SqL c.K G p (ns.map V.int)
  | .cls k, v => v = .ref (c.C k)
  | .slc lo hi, v => ∃ p vl vu, v = .ref p ∧ IsPart vl lo ∧ IsPart vu hi ∧ G p = some (.frz { cls := .type "slice", data := .fields #[vl, vu, .none] } (.own p))
  | .non, v => v = .non
  | .bl b, v => v = .bl b
  | .int i, v => v = .int i
  | .str x, v => v = .str x ∧ StrG x
theorem Rep.w {c : TC} {G H : Hp} (s : Sub G H) : ∀ {t : PV} {v : V}, Rep c G t v → WRep c G H t v
  | .non, _, h => by simpa [Rep, WRep] using h
  | .bl _, _, h => by simpa [Rep, WRep] using h
  | .int _, _, h => by simpa [Rep, WRep] using h
  | .str _, _, h => by simpa [Rep, WRep] using h
  | .lst _, _, h => by
    simp only [Rep] at h
    obtain ⟨p, vs, a, b, r⟩ := h
    exact ⟨p, vs, a, s _ _ b, r⟩
  | .tup _, _, h => by
    simp only [Rep] at h
    obtain ⟨p, vs, a, b, r⟩ := h
    exact ⟨p, vs, a, b, r⟩
  | .ins _ _, _, h => by
    simp only [Rep] at h
    obtain ⟨p, dx, gs, a, b, r⟩ := h
    exact ⟨p, dx, gs, a, s _ _ b, r⟩
  | .dct _ _, _, h => by
    simp only [Rep] at h
    obtain ⟨p, a, h⟩ := h
    refine ⟨p, a, ?_⟩
    rcases h with ⟨t, ks, b, r⟩ | ⟨t, ks, b, r⟩
    · exact .inl ⟨t, ks, s _ _ b, r⟩
    · exact .inr ⟨t, ks, s _ _ b, r⟩
  | .scr _, _, h => by simpa [Rep, WRep] using h
  | .cls _, _, h => by simpa [Rep, WRep] using h
  | .slc _ _, _, h => by simpa [Rep, WRep] using h
/-- .. as a tree of what stands now -/
theorem WRep.rep {c : TC} {G H : Hp} (s : Sub G H) : ∀ {t : PV} {v : V}, WRep c G H t v → Rep c H t v
  | .non, _, h => by simpa [Rep, WRep] using h
  | .bl _, _, h => by simpa [Rep, WRep] using h
  | .int _, _, h => by simpa [Rep, WRep] using h
  | .str _, _, h => by simpa [Rep, WRep] using h
  | .lst _, _, ⟨p, vs, a, b, r⟩ => by simp only [Rep]; exact ⟨p, vs, a, b, r.mono s⟩
  | .tup _, _, ⟨p, vs, a, b, r⟩ => by simp only [Rep]; exact ⟨p, vs, a, s.sqT b, r.mono s⟩
  | .ins _ _, _, ⟨p, dx, gs, a, b, r⟩ => by simp only [Rep]; exact ⟨p, dx, gs, a, b, r.mono s⟩
  | .dct _ _, _, ⟨p, a, h⟩ => by
    simp only [Rep]
    refine ⟨p, a, ?_⟩
    rcases h with ⟨t, ks, b, r⟩ | ⟨t, ks, b, r⟩
    · exact .inl ⟨t, ks, b, r.mono s⟩
    · exact .inr ⟨t, ks, b, r.mono s⟩
  | .scr _, _, ⟨p, a, h⟩ => by simp only [Rep]; exact ⟨p, a, s.sqL h⟩
  | .cls _, _, h => by simpa [Rep, WRep] using h
  | .slc _ _, _, ⟨p, vl, vu, a, b1, b2, g⟩ => by simp only [Rep]; exact ⟨p, vl, vu, a, b1, b2, s _ _ g⟩

def OwRep (c : TC) (G H : Hp) (p : Addr) (ad : List Addr) : OS → Prop
  | .lst xs => ad = [p] ∧ ∃ vs, H p = some (.lst vs) ∧ RepL c G xs vs
  | .dct t kvs => ad = [p] ∧ ((t = false ∧ ∃ ks, H p = some (.dK ks) ∧ RepK c G kvs ks) ∨ (t = true ∧ ∃ ks, H p = some (.dT ks) ∧ RepT c G kvs ks))
  | .ins k fs => ad = [p] ∧ ∃ dx gs, H p = some (.ins (c.C k) dx gs) ∧ RepF c G fs gs
  | .boxD great fs => ∃ q, ad = [p, q] ∧ p ≠ q ∧ H q = some (.lst (great.map V.int)) ∧ H p = some (.dK ((Sum.inr "great", V.ref q) :: fs.map fun f => (Sum.inr f.1, V.int f.2)))
  | .boxL great m => ∃ q, ad = [p, q] ∧ p ≠ q ∧ H q = some (.lst (great.map V.int)) ∧ H p = some (.lst [V.ref q, V.int m])
  | .lof xs ys => ∃ q us vs, ad = [p, q] ∧ p ≠ q ∧ H p = some (.lst (us ++ [V.ref q])) ∧ RepL c G xs us ∧ H q = some (.lst vs) ∧ RepL c G ys vs
def SlotRep (c : TC) (G H : Hp) (ad : List Addr) : Option Arg → Option V → Prop
  | none, _ => ad = []
  | some (.t t), some v => ad = [] ∧ Rep c G t v
  | some (.t _), none => False
  | some (.ow o), some v => ∃ p, v = .ref p ∧ OwRep c G H p ad o
  | some (.ow _), none => False

theorem OwRep.has {c : TC} {G H : Hp} {p : Addr} {ad : List Addr} : ∀ {o : OS}, OwRep c G H p ad o → ∀ a ∈ ad, ∃ u, H a = some u
  | .lst xs, ⟨e, vs, h, _⟩ => fun a ha => by rw [e] at ha; rw [List.mem_singleton.mp ha]; exact ⟨_, h⟩
  | .dct t kvs, ⟨e, h⟩ => fun a ha => by
    rw [e] at ha; rw [List.mem_singleton.mp ha]
    rcases h with ⟨_, ks, h, _⟩ | ⟨_, ks, h, _⟩ <;> exact ⟨_, h⟩
  | .ins k fs, ⟨e, dx, gs, h, _⟩ => fun a ha => by rw [e] at ha; rw [List.mem_singleton.mp ha]; exact ⟨_, h⟩
  | .boxD great fs, ⟨q, e, _, h1, h2⟩ => fun a ha => by
    rw [e] at ha
    simp at ha
    rcases ha with rfl | rfl
    · exact ⟨_, h2⟩
    · exact ⟨_, h1⟩
  | .boxL great fs, ⟨q, e, _, h1, h2⟩ => fun a ha => by
    rw [e] at ha
    simp at ha
    rcases ha with rfl | rfl
    · exact ⟨_, h2⟩
    · exact ⟨_, h1⟩
  | .lof xs ys, ⟨q, us, vs, e, _, h1, _, h2, _⟩ => fun a ha => by
    rw [e] at ha
    simp at ha
    rcases ha with rfl | rfl
    · exact ⟨_, h1⟩
    · exact ⟨_, h2⟩
/-- an owned object stays where its addresses are kept -/
theorem OwRep.stay {c : TC} {G H G1 H1 : Hp} {p : Addr} {ad : List Addr} (s : Sub G G1) : ∀ {o : OS}, OwRep c G H p ad o → (∀ a ∈ ad, ∀ u, H a = some u → H1 a = some u) → OwRep c G1 H1 p ad o
  | .lst xs, ⟨e, vs, h, r⟩, k => ⟨e, vs, k p (by rw [e]; simp) _ h, r.mono s⟩
  | .dct t kvs, ⟨e, h⟩, k => by
    refine ⟨e, ?_⟩
    rcases h with ⟨t, ks, h, r⟩ | ⟨t, ks, h, r⟩
    · exact .inl ⟨t, ks, k p (by rw [e]; simp) _ h, r.mono s⟩
    · exact .inr ⟨t, ks, k p (by rw [e]; simp) _ h, r.mono s⟩
  | .ins _ fs, ⟨e, dx, gs, h, r⟩, k => ⟨e, dx, gs, k p (by rw [e]; simp) _ h, r.mono s⟩
  | .boxD great fs, ⟨q, e, n, h1, h2⟩, k => ⟨q, e, n, k q (by rw [e]; simp) _ h1, k p (by rw [e]; simp) _ h2⟩
  | .boxL great fs, ⟨q, e, n, h1, h2⟩, k => ⟨q, e, n, k q (by rw [e]; simp) _ h1, k p (by rw [e]; simp) _ h2⟩
  | .lof xs ys, ⟨q, us, vs, e, n, h1, r1, h2, r2⟩, k => ⟨q, us, vs, e, n, k p (by rw [e]; simp) _ h1, r1.mono s, k q (by rw [e]; simp) _ h2, r2.mono s⟩
theorem SlotRep.has {c : TC} {G H : Hp} {ad : List Addr} : ∀ {s : Option Arg} {v : Option V}, SlotRep c G H ad s v → ∀ a ∈ ad, ∃ u, H a = some u
  | none, _, h => fun a ha => by rw [show ad = [] from h] at ha; cases ha
  | some (.t t), some v, ⟨h, _⟩ => fun a ha => by rw [h] at ha; cases ha
  | some (.ow o), some v, ⟨p, _, h⟩ => h.has
theorem SlotRep.stay {c : TC} {G H G1 H1 : Hp} {ad : List Addr} (s : Sub G G1) : ∀ {sl : Option Arg} {v : Option V}, SlotRep c G H ad sl v → (∀ a ∈ ad, ∀ u, H a = some u → H1 a = some u) → SlotRep c G1 H1 ad sl v
  | none, _, h, _ => h
  | some (.t t), some v, ⟨h, r⟩, _ => ⟨h, r.mono s⟩
  | some (.ow o), some v, ⟨p, e, h⟩, k => ⟨p, e, h.stay s k⟩

/-- where a def's body began: the heaps, the addresses that it may change, the slots that must stay -/
structure Ref where
  H0 : Hp
  G0 : Hp
  A0 : List Addr
  pins : List (Nat × V × List Addr)

structure RS (c : TC) (r : Ref) (ads : Nat → List Addr) (G H : Hp) (σ : L2.St) (env : En) : Prop where
  step : Step r.A0 r.H0 r.G0 H G
  len : env.length = σ.length
  slot : ∀ i, SlotRep c G H (ads i) (env[i]?.join) (σ[i]?.join)
  own : ∀ i a, a ∈ ads i → G a = none ∧ ((i ∈ r.pins.map Prod.fst ∧ a ∈ r.A0) ∨ r.H0 a = none)
  disj : ∀ i j a, a ∈ ads i → a ∈ ads j → i = j
  pin : ∀ q ∈ r.pins, σ[q.1]? = some (some q.2.1) ∧ ads q.1 = q.2.2
section
variable {c : TC} {r : Ref} {ads : Nat → List Addr} {G H G1 H1 : Hp} {σ : L2.St} {env : En}
theorem RS.sub (R : RS c r ads G H σ env) : Sub G H := R.step.sub1
theorem RS.ownSome (R : RS c r ads G H σ env) {i : Nat} {a : Addr} (h : a ∈ ads i) : ∃ u, H a = some u := (R.slot i).has a h
/-- nothing of ours changes -/
theorem RS.next (R : RS c r ads G H σ env) (s : Step [] H G H1 G1) : RS c r ads G1 H1 σ env where
  step := R.step.trans0 s
  len := R.len
  slot := fun i => (R.slot i).stay s.sub fun a _ u e => s.keep a u (by simp) e
  own := fun i a h => by
    refine ⟨?_, (R.own i a h).2⟩
    cases e : G1 a with
    | none => rfl
    | some u =>
      rcases s.new a u e with z | z
      · rw [(R.own i a h).1] at z; cases z
      · obtain ⟨u', e'⟩ := R.ownSome h
        rw [z] at e'; cases e'
  disj := R.disj
  pin := R.pin
end

/-- behind an expression: what was known is known, what no slot owned stands as it stood, owned by none -/
structure Nxt (ads : Nat → List Addr) (G H : Hp) (ads1 : Nat → List Addr) (G1 H1 : Hp) : Prop where
  sub : Sub G G1
  hold : ∀ a o, H a = some o → (∀ j, a ∉ ads j) → H1 a = some o ∧ (∀ j, a ∉ ads1 j) ∧ (G a = none → G1 a = none)
  there : ∀ a, H1 a = none → H a = none
theorem Nxt.refl (ads : Nat → List Addr) (G H : Hp) : Nxt ads G H ads G H := ⟨Sub.refl _, fun _ _ e n => ⟨e, n, id⟩, fun _ e => e⟩
theorem Nxt.trans {ads ads1 ads2 : Nat → List Addr} {G H G1 H1 G2 H2 : Hp} (a : Nxt ads G H ads1 G1 H1) (b : Nxt ads1 G1 H1 ads2 G2 H2) : Nxt ads G H ads2 G2 H2 :=
  ⟨a.sub.trans b.sub, fun x o e n => let z := a.hold x o e n; let y := b.hold x o z.1 z.2.1; ⟨y.1, y.2.1, fun q => y.2.2 (z.2.2 q)⟩, fun x e => a.there x (b.there x e)⟩
theorem Nxt.of {ads : Nat → List Addr} {G H G1 H1 : Hp} (s : Step [] H G H1 G1) : Nxt ads G H ads G1 H1 := ⟨s.sub, fun a o e n => ⟨s.keep a o (by simp) e, n, fun q => by
  cases z : G1 a with
  | none => rfl
  | some u =>
    rcases s.new a u z with y | y
    · rw [q] at y; cases y
    · rw [e] at y; cases y⟩, s.there⟩
/-- one more thing is known, that a slot owned -/
theorem Nxt.know {ads ads1 : Nat → List Addr} {G H : Hp} {p : Addr} {ho : HO} (hp : G p = none) (ow : ∃ j, p ∈ ads j) (h : ∀ j a, a ∈ ads1 j → a ∈ ads j) : Nxt ads G H ads1 (upd G p ho) H := by
  refine ⟨fun a u e => ?_, fun a o e n => ⟨e, fun j m => n j (h j a m), fun q => ?_⟩, fun _ e => e⟩
  · have ne : a ≠ p := fun z => by rw [z, hp] at e; cases e
    rw [upd_ne ne]; exact e
  · have ne : a ≠ p := fun z => by
      obtain ⟨j, m⟩ := ow
      exact n j (by rw [z]; exact m)
    rw [upd_ne ne]; exact q
/-- one more thing is known, that was not there at first -/
theorem Nxt.fresh {ads ads1 : Nat → List Addr} {G H G1 H1 : Hp} (s : Nxt ads G H ads1 G1 H1) {p : Addr} {ho : HO} (hp : G1 p = none) (hn : H p = none) : Nxt ads G H ads1 (upd G1 p ho) H1 := by
  refine ⟨fun a u e => ?_, fun a o e n => ?_, s.there⟩
  · have ne : a ≠ p := fun z => by rw [z] at e; rw [s.sub _ _ e] at hp; cases hp
    rw [upd_ne ne]; exact s.sub _ _ e
  · have ne : a ≠ p := fun z => by rw [z, hn] at e; cases e
    obtain ⟨z1, z2, z3⟩ := s.hold a o e n
    exact ⟨z1, z2, fun q => by rw [upd_ne ne]; exact z3 q⟩
theorem Nxt.less {ads ads1 ads2 : Nat → List Addr} {G H G1 H1 : Hp} (s : Nxt ads G H ads2 G1 H1) (h : ∀ j a, a ∈ ads1 j → a ∈ ads2 j) : Nxt ads G H ads1 G1 H1 :=
  ⟨s.sub, fun a o e n => let z := s.hold a o e n; ⟨z.1, fun j m => z.2.1 j (h j a m), z.2.2⟩, s.there⟩

/-! ### what an expression gives -/
def VRep (c : TC) (σ : L2.St) (G : Hp) : Vl → V → Prop
  | .tr t, v => Rep c G t v
  | .sl i, v => σ[i]? = some (some v)
theorem VRep.mono {c : TC} {σ : L2.St} {G G1 : Hp} (s : Sub G G1) : ∀ {x : Vl} {v : V}, VRep c σ G x v → VRep c σ G1 x v
  | .tr _, _, h => Rep.mono s h
  | .sl _, _, h => h
@[simp] def OS.tree : OS → Option PV
  | .lst xs => some (.lst xs)
  | .dct t kvs => some (.dct t kvs)
  | .ins k fs => some (.ins k fs)
  | _ => none
@[simp] def look (env : En) : Vl → Option PV
  | .tr t => some t
  | .sl i => match env[i]? with
    | some (some (.t t)) => some t
    | some (some (.ow o)) => o.tree
    | _ => none
theorem OwRep.w {c : TC} {G H : Hp} {p : Addr} {ad : List Addr} {t : PV} : ∀ {o : OS}, OwRep c G H p ad o → o.tree = some t → WRep c G H t (.ref p)
  | .lst xs, ⟨_, vs, h, r⟩, e => by cases e; exact ⟨p, vs, rfl, h, r⟩
  | .dct t kvs, ⟨_, h⟩, e => by cases e; exact ⟨p, rfl, h⟩
  | .ins _ fs, ⟨_, dx, gs, h, r⟩, e => by cases e; exact ⟨p, dx, gs, rfl, h, r⟩
theorem look_rep {c : TC} {r : Ref} {ads : Nat → List Addr} {G H : Hp} {σ : L2.St} {env : En} (R : RS c r ads G H σ env) : ∀ {x : Vl} {v : V} {t : PV}, VRep c σ G x v → look env x = some t → WRep c G H t v
  | .tr _, _, _, h, e => by cases e; exact Rep.w R.sub h
  | .sl i, v, t, h, e => by
    have s := R.slot i
    have hv : σ[i]? = some (some v) := h
    rw [hv] at s
    simp only [look] at e
    cases q : env[i]? with
    | none => rw [q] at e; cases e
    | some o =>
      rw [q] at e s
      cases o with
      | none => cases e
      | some a =>
        cases a with
        | t t' =>
          cases e
          exact Rep.w R.sub s.2
        | ow o =>
          obtain ⟨p, z, s⟩ := s
          cases z
          exact s.w e

/-! ### readings -/
abbrev EvE := En → RE Vl
abbrev EvT := En → RE Bool
abbrev EvA := En → RE (List Vl)
def VReps (c : TC) (σ : L2.St) (G : Hp) : List Vl → List V → Prop
  | [], vs => vs = []
  | x :: xs, vs => ∃ v r, vs = v :: r ∧ VRep c σ G x v ∧ VReps c σ G xs r
/-- an exception as it lies: its class, its own dict -/
def RepX (c : TC) (G : Hp) (x : EX) (cls : Value) (d : Option Addr) (H : Hp) : Prop :=
  cls = .ref (c.C x.k) ∧ ((x.fs = [] ∧ d = none) ∨ ∃ dx gs, d = some dx ∧ G dx = some (.xd gs) ∧ RepF c G x.fs gs)
def XC (c : TC) (r : Ref) (W : WX) (G : Hp) (σ : L2.St) (x : EX) (env' : En) : Prop :=
  ∀ ads' G' H' cls d, RS c r ads' G' H' σ env' → Sub G G' → RepX c G' x cls d H' → W cls d σ H'
def TEof (c : TC) (r : Ref) (W : WX) (ev : EvE) : TE := fun σ H Q => ∃ ads G env, RS c r ads G H σ env ∧
  (ev env).Sat (fun x env' => ∀ ads' G' H' v, RS c r ads' G' H' σ env' → Nxt ads G H ads' G' H' → VRep c σ G' x v → Q v H') (XC c r W G σ)
def TTof (c : TC) (r : Ref) (W : WX) (ev : EvT) : TT := fun σ H Q => ∃ ads G env, RS c r ads G H σ env ∧
  (ev env).Sat (fun x env' => ∀ ads' G' H', RS c r ads' G' H' σ env' → Nxt ads G H ads' G' H' → Q x H') (XC c r W G σ)
def TAof (c : TC) (r : Ref) (W : WX) (ev : EvA) : TA := fun σ H Q => ∃ ads G env, RS c r ads G H σ env ∧
  (ev env).Sat (fun xs env' => ∀ ads' G' H' vs, RS c r ads' G' H' σ env' → Nxt ads G H ads' G' H' → VReps c σ G' xs vs → Q vs H') (XC c r W G σ)
theorem XC.weak {c : TC} {r : Ref} {W : WX} {G G1 : Hp} {σ : L2.St} {x : EX} {e : En} (h : XC c r W G σ x e) (s : Sub G G1) : XC c r W G1 σ x e :=
  fun ads' G' H' cls d R s' p => h ads' G' H' cls d R (s.trans s') p

section
variable {X : Cx}
theorem PE.imp {e : Expr} {t t' : TE} (h : PE X e t) (i : ∀ σ H Q, t' σ H Q → t σ H Q) : PE X e t' := ⟨fun pins s σ H Q I q => h.run pins s σ H Q I (i σ H Q q)⟩
theorem PT.imp {e : Expr} {t t' : TT} (h : PT X e t) (i : ∀ σ H Q, t' σ H Q → t σ H Q) : PT X e t' := ⟨fun pins s σ H Q I q => h.run pins s σ H Q I (i σ H Q q)⟩
theorem PW.imp {e : Expr} {t t' : TT} (h : PW X e t) (i : ∀ σ H Q, t' σ H Q → t σ H Q) : PW X e t' := ⟨fun w pins s σ H Q I q => h.run w pins s σ H Q I (i σ H Q q)⟩
theorem PA.imp {es : List Expr} {t t' : TA} (h : PA X es t) (i : ∀ σ H Q, t' σ H Q → t σ H Q) : PA X es t' := ⟨fun pos pins s σ H Q I q => h.run pos pins s σ H Q I (i σ H Q q)⟩
theorem PS.imp {st : Stmt} {t t' : TS} (h : PS X st t) (i : ∀ D σ H, t' D σ H → t D σ H) : PS X st t' := ⟨fun pins s σ H D I q => h.run pins s σ H D I (i D σ H q)⟩
theorem PSs.imp {st : List Stmt} {t t' : TS} (h : PSs X st t) (i : ∀ D σ H, t' D σ H → t D σ H) : PSs X st t' := ⟨fun pins s σ H D I q => h.run pins s σ H D I (i D σ H q)⟩
end

/-! ### names, constants -/
@[simp] def eVar (i : Nat) : EvE := fun env => match env[i]? with
  | some (some (.t t)) => .ok (.tr t) env
  | some (some (.ow _)) => .ok (.sl i) env
  | _ => .bad
@[simp] def eCon (t : PV) : EvE := fun env => .ok (.tr t) env
section
variable {X : Cx} {c : TC} {r : Ref} {W : WX}
theorem pt_var {i : Nat} {e : Expr} (h : PE X e (tVar i)) : PE X e (TEof c r W (eVar i)) := PE.imp h fun σ H Q ⟨ads, G, env, R, h⟩ => by
  have s := R.slot i
  simp only [eVar] at h
  cases q : env[i]? with
  | none => rw [q] at h; exact h.elim
  | some o =>
    rw [q] at h s
    cases o with
    | none => exact h.elim
    | some a =>
      cases a with
      | t t =>
        cases z : σ[i]?.join with
        | none => rw [z] at s; exact (show False from s).elim
        | some v =>
          rw [z] at s
          exact ⟨v, Option.join_eq_some_iff.mp z, h ads G H v R (Nxt.refl _ _ _) s.2⟩
      | ow o =>
        cases z : σ[i]?.join with
        | none => rw [z] at s; exact (show False from s).elim
        | some v =>
          have z' : σ[i]? = some (some v) := Option.join_eq_some_iff.mp z
          exact ⟨v, z', h ads G H v R (Nxt.refl _ _ _) z'⟩
theorem pt_con {t : PV} {v : V} {e : Expr} (h : PE X e (tC v)) (hr : ∀ G, Rep c G t v) : PE X e (TEof c r W (eCon t)) := PE.imp h fun σ H Q ⟨ads, G, env, R, h⟩ =>
  h ads G H v R (Nxt.refl _ _ _) (hr G)
theorem pt_int {i : Int} {j pos} : PE X (.Constant (.int i) j pos) (TEof c r W (eCon (.int i))) := pt_con pe_int fun _ => by simp [Rep]
theorem pt_bl {b : Bool} {j pos} : PE X (.Constant (.bool b) j pos) (TEof c r W (eCon (.bl b))) := pt_con pe_bl fun _ => by simp [Rep]
theorem pt_non {j pos} : PE X (.Constant .none j pos) (TEof c r W (eCon .non)) := pt_con pe_non fun _ => by simp [Rep]
theorem pt_str {x : Str} {j pos} (h : (decide (x.length ≤ sizeLine) && PyData.strOk x) = true := by decide +kernel) : PE X (.Constant (.str x) j pos) (TEof c r W (eCon (.str x))) := pt_con pe_str fun _ => by
  rw [Bool.and_eq_true, decide_eq_true_eq] at h
  simp only [Rep]; exact ⟨trivial, h⟩
end

/-! ### operators, by values -/
/-- what a value-operation may end with -/
def VOut (c : TC) (G H : Hp) (t : PV) (Q : VK) : Prop := ∀ v H' G', Step [] H G H' G' → Rep c G' t v → Q v H'
def rAny2 (X : Cx) (g : Value → Value → Sem Value) : R2 := fun x y H Q => ∃ r, OpR X g r ∧ r x y H Q
theorem opAny {X : Cx} {g : Value → Value → Sem Value} : OpR X g (rAny2 X g) := fun pins s σ H x y v u Q I r1 r2 ⟨r, h, q⟩ => h pins s σ H x y v u Q I r1 r2 q
def OpP (X : Cx) (c : TC) (g : Value → Value → Sem Value) (f : PV → PV → Option PV) : Prop :=
  ∀ G H t1 t2 t v1 v2 Q, f t1 t2 = some t → Sub G H → WRep c G H t1 v1 → WRep c G H t2 v2 → VOut c G H t Q → rAny2 X g v1 v2 H Q
def rAny1 (X : Cx) (g : Value → Sem Value) : V → Hp → VK → Prop := fun x H Q => ∃ r, UnR X g r ∧ r x H Q
theorem unAny {X : Cx} {g : Value → Sem Value} : UnR X g (rAny1 X g) := fun pins s σ H x v Q I r1 ⟨r, h, q⟩ => h pins s σ H x v Q I r1 q
def UnP (X : Cx) (c : TC) (g : Value → Sem Value) (f : PV → Option PV) : Prop :=
  ∀ G H t1 t v1 Q, f t1 = some t → Sub G H → WRep c G H t1 v1 → VOut c G H t Q → rAny1 X g v1 H Q
def CallP (X : Cx) (c : TC) (g : Value) (f : List PV → Option PV) : Prop :=
  ∀ G H ts t vs Q, f ts = some t → Sub G H → Paired (WRep c G H) ts vs → VOut c G H t Q → ∃ r, CallR X g r ∧ r vs H Q
def MtP (X : Cx) (c : TC) (id : String) (f : PV → List PV → Option PV) : Prop :=
  ∀ G H t0 ts t v0 vs Q, f t0 ts = some t → Sub G H → WRep c G H t0 v0 → Paired (WRep c G H) ts vs → VOut c G H t Q → ∃ r, MtR X id r ∧ r v0 vs H Q

@[simp] def eBin (f : PV → PV → Option PV) (ea eb : EvE) : EvE := fun env => (ea env).bind fun a e1 => (eb e1).bind fun b e2 =>
  match look e2 a, look e2 b with
  | some x, some y => (ofO (f x y) e2).bind fun t e => .ok (.tr t) e
  | _, _ => .bad
section
variable {X : Cx} {c : TC} {r : Ref} {W : WX} {a b : Expr} {ea eb : EvE} {pos : Pos}
theorem bin_imp {g : Value → Value → Sem Value} {f : PV → PV → Option PV} (ho : OpP X c g f) {σ : L2.St} {H : Hp} {Q : VK} (h : TEof c r W (eBin f ea eb) σ H Q) : tOp (rAny2 X g) (TEof c r W ea) (TEof c r W eb) σ H Q := by
  obtain ⟨ads, G, env, R, h⟩ := h
  refine ⟨ads, G, env, R, Sat_mono (Sat_bind.mp h) (fun x e1 h1 ads1 G1 H1 v1 R1 s1 p1 => ?_) fun _ _ z => z⟩
  refine ⟨ads1, G1, e1, R1, Sat_mono (Sat_bind.mp h1) (fun y e2 h2 ads2 G2 H2 v2 R2 s2 p2 => ?_) fun x e z => z.weak s1.sub⟩
  cases q1 : look e2 x with
  | none => rw [q1] at h2; exact h2.elim
  | some t1 =>
    rw [q1] at h2
    cases q2 : look e2 y with
    | none => rw [q2] at h2; exact h2.elim
    | some t2 =>
      rw [q2] at h2
      obtain ⟨t, ht, h2⟩ := Sat_ofO.mp (Sat_bind.mp h2)
      exact ho G2 H2 t1 t2 t v1 v2 Q ht R2.sub (look_rep R2 (p1.mono s2.sub) q1) (look_rep R2 p2 q2) fun v H' G' st p => h2 ads2 G' H' v (R2.next st) ((s1.trans s2).trans (Nxt.of st)) p
theorem pt_bin {op : Operator} {f : PV → PV → Option PV} (ho : OpP X c (binaryOp op) f) (ha : PE X a (TEof c r W ea)) (hb : PE X b (TEof c r W eb)) : PE X (.BinOp a op b pos) (TEof c r W (eBin f ea eb)) :=
  PE.imp (pe_op opAny ha hb) fun _ _ _ h => bin_imp ho h
theorem pt_cmp {op : CmpOp} {f : PV → PV → Option PV} (ho : OpP X c (compareOp op) f) (ha : PE X a (TEof c r W ea)) (hb : PE X b (TEof c r W eb)) (hm : behindInMarks op b = false) : PE X (.Compare a [op] [b] pos) (TEof c r W (eBin f ea eb)) :=
  PE.imp (pe_cmpR opAny ha hb hm) fun _ _ _ h => bin_imp ho h
@[simp] def eUn (f : PV → Option PV) (ea : EvE) : EvE := fun env => (ea env).bind fun a e1 =>
  match look e1 a with
  | some x => (ofO (f x) e1).bind fun t e => .ok (.tr t) e
  | _ => .bad
theorem pt_un {op : UnaryOp} {f : PV → Option PV} (ho : UnP X c (unaryOp op) f) (ha : PE X a (TEof c r W ea)) : PE X (.UnaryOp op a pos) (TEof c r W (eUn f ea)) :=
  PE.imp (pe_un unAny ha) fun σ H Q ⟨ads, G, env, R, h⟩ => by
    refine ⟨ads, G, env, R, Sat_mono (Sat_bind.mp h) (fun x e1 h1 ads1 G1 H1 v1 R1 s1 p1 => ?_) fun _ _ z => z⟩
    cases q1 : look e1 x with
    | none => rw [q1] at h1; exact h1.elim
    | some t1 =>
      rw [q1] at h1
      obtain ⟨t, ht, h2⟩ := Sat_ofO.mp (Sat_bind.mp h1)
      exact ho G1 H1 t1 t v1 Q ht R1.sub (look_rep R1 p1 q1) fun v H' G' st p => h2 ads1 G' H' v (R1.next st) (s1.trans (Nxt.of st)) p
end
end TreeL
end
section
/-! TL3: what changes the state (RS.set, write, freeze); truth, tests, and, or, conditional expressions, displays, arguments. -/
namespace TreeL
open PySem PySem.Spec PyProof.Rows L2

section
variable {c : TC} {r : Ref} {ads : Nat → List Addr} {G H : Hp} {σ : L2.St} {env : En}
theorem join_set_self {α : Type} {l : List (Option α)} {i : Nat} {x : Option α} (h : i < l.length) : (l.set i x)[i]?.join = x := by
  rw [List.getElem?_set_self h]; rfl
theorem join_set_ne {α : Type} {l : List (Option α)} {i j : Nat} {x : Option α} (h : i ≠ j) : (l.set i x)[j]?.join = l[j]?.join := by
  rw [List.getElem?_set_ne h]
theorem set_out {α : Type} {l : List α} {i : Nat} {x : α} (h : ¬ i < l.length) : l.set i x = l := List.set_eq_of_length_le (Nat.le_of_not_lt h)
/-- a tree is stored in a slot -/
theorem RS.set (R : RS c r ads G H σ env) {i : Nat} {t : PV} {v : V} (h : Rep c G t v) (hp : (r.pins.map Prod.fst).contains i = false) :
    RS c r (fun j => if j = i then [] else ads j) G H (σ.set i (some v)) (env.set i (some (.t t))) where
  step := R.step
  len := by simp [R.len]
  slot := fun j => by
    by_cases z : j = i
    · subst z
      by_cases lt : j < env.length
      · rw [join_set_self lt, join_set_self (by rw [← R.len]; exact lt), if_pos rfl]
        exact ⟨rfl, h⟩
      · rw [set_out lt, set_out (by rw [← R.len]; exact lt), if_pos rfl, List.getElem?_eq_none (Nat.le_of_not_lt lt)]
        exact rfl
    · rw [join_set_ne (Ne.symm z), join_set_ne (Ne.symm z), if_neg z]
      exact R.slot j
  own := fun j a ha => by
    by_cases z : j = i
    · rw [if_pos z] at ha; cases ha
    · rw [if_neg z] at ha; exact R.own j a ha
  disj := fun j k a ha hb => by
    by_cases z : j = i
    · rw [if_pos z] at ha; cases ha
    · rw [if_neg z] at ha
      by_cases z' : k = i
      · rw [if_pos z'] at hb; cases hb
      · rw [if_neg z'] at hb; exact R.disj j k a ha hb
  pin := fun q hq => by
    have ne : q.1 ≠ i := fun e => by
      have m : (r.pins.map Prod.fst).contains i = true := List.contains_iff_mem.mpr (by rw [← e]; exact List.mem_map_of_mem hq)
      rw [hp] at m; cases m
    rw [List.getElem?_set_ne (Ne.symm ne), if_neg ne]
    exact R.pin q hq
/-- a slot is forgotten -/
theorem RS.wipe (R : RS c r ads G H σ env) {i : Nat} (hp : (r.pins.map Prod.fst).contains i = false) :
    RS c r (fun j => if j = i then [] else ads j) G H (σ.set i none) (env.set i none) where
  step := R.step
  len := by simp [R.len]
  slot := fun j => by
    by_cases z : j = i
    · subst z
      by_cases lt : j < env.length
      · rw [join_set_self lt, if_pos rfl]
        exact rfl
      · rw [set_out lt, if_pos rfl, List.getElem?_eq_none (Nat.le_of_not_lt lt)]
        exact rfl
    · rw [join_set_ne (Ne.symm z), join_set_ne (Ne.symm z), if_neg z]
      exact R.slot j
  own := fun j a ha => by
    by_cases z : j = i
    · rw [if_pos z] at ha; cases ha
    · rw [if_neg z] at ha; exact R.own j a ha
  disj := fun j k a ha hb => by
    by_cases z : j = i
    · rw [if_pos z] at ha; cases ha
    · rw [if_neg z] at ha
      by_cases z' : k = i
      · rw [if_pos z'] at hb; cases hb
      · rw [if_neg z'] at hb; exact R.disj j k a ha hb
  pin := fun q hq => by
    have ne : q.1 ≠ i := fun e => by
      have m : (r.pins.map Prod.fst).contains i = true := List.contains_iff_mem.mpr (by rw [← e]; exact List.mem_map_of_mem hq)
      rw [hp] at m; cases m
    rw [List.getElem?_set_ne (Ne.symm ne), if_neg ne]
    exact R.pin q hq
/-- a new object of our own is stored in a slot (it stands already: Step.allocO) -/
theorem RS.setOwn (R : RS c r ads G H σ env) {i : Nat} {p : Addr} {ad : List Addr} {o : OS} (h : OwRep c G H p ad o) (hn : ∀ a ∈ ad, G a = none ∧ r.H0 a = none ∧ ∀ j, a ∉ ads j) (hp : (r.pins.map Prod.fst).contains i = false) (hi : i < env.length) :
    RS c r (fun j => if j = i then ad else ads j) G H (σ.set i (some (.ref p))) (env.set i (some (.ow o))) where
  step := R.step
  len := by simp [R.len]
  slot := fun j => by
    by_cases z : j = i
    · subst z
      rw [join_set_self hi, join_set_self (by rw [← R.len]; exact hi), if_pos rfl]
      exact ⟨p, rfl, h⟩
    · rw [join_set_ne (Ne.symm z), join_set_ne (Ne.symm z), if_neg z]
      exact R.slot j
  own := fun j a ha => by
    by_cases z : j = i
    · rw [if_pos z] at ha; exact ⟨(hn a ha).1, .inr (hn a ha).2.1⟩
    · rw [if_neg z] at ha; exact R.own j a ha
  disj := fun j k a ha hb => by
    by_cases z : j = i
    · rw [if_pos z] at ha
      by_cases z' : k = i
      · rw [z, z']
      · rw [if_neg z'] at hb; exact absurd hb ((hn a ha).2.2 k)
    · rw [if_neg z] at ha
      by_cases z' : k = i
      · rw [if_pos z'] at hb; exact absurd ha ((hn a hb).2.2 j)
      · rw [if_neg z'] at hb; exact R.disj j k a ha hb
  pin := fun q hq => by
    have ne : q.1 ≠ i := fun e => by
      have m : (r.pins.map Prod.fst).contains i = true := List.contains_iff_mem.mpr (by rw [← e]; exact List.mem_map_of_mem hq)
      rw [hp] at m; cases m
    rw [List.getElem?_set_ne (Ne.symm ne), if_neg ne]
    exact R.pin q hq
/-- the object of a slot is written -/
theorem RS.write (R : RS c r ads G H σ env) {i : Nat} {p a : Addr} {o : OS} {ho ho' : HO} (hs : σ[i]? = some (some (.ref p))) (ha : a ∈ ads i) (hH : H a = some ho) (h : OwRep c G (upd H a ho') p (ads i) o) :
    RS c r ads G (upd H a ho') σ (env.set i (some (.ow o))) where
  step := R.step.trans (Step.write R.sub (R.own i a ha).1 hH) fun x hx => by
    rw [List.mem_singleton.mp hx]
    rcases (R.own i a ha).2 with z | z
    · exact .inl z.2
    · exact .inr z
  len := by simp [R.len]
  slot := fun j => by
    have li : i < σ.length := (List.getElem?_eq_some_iff.mp hs).1
    by_cases z : j = i
    · subst z
      rw [join_set_self (by rw [R.len]; exact li), hs]
      exact ⟨p, rfl, h⟩
    · rw [join_set_ne (Ne.symm z)]
      refine (R.slot j).stay (Sub.refl _) fun b hb u e => ?_
      have ne : b ≠ a := fun q => z (R.disj j i a (by rw [← q]; exact hb) ha)
      rw [upd_ne ne]; exact e
  own := R.own
  disj := R.disj
  pin := R.pin
/-- the object of a slot becomes a tree -/
theorem RS.freeze (R : RS c r ads G H σ env) {i : Nat} {v : V} {o : OS} {t : PV} (hs : σ[i]? = some (some v)) (he : env[i]? = some (some (.ow o))) (ht : o.tree = some t) (hp : (r.pins.map Prod.fst).contains i = false) :
    ∃ G', Nxt ads G H (fun j => if j = i then [] else ads j) G' H ∧ Rep c G' t v ∧ RS c r (fun j => if j = i then [] else ads j) G' H σ (env.set i (some (.t t))) := by
  have s := R.slot i
  rw [hs, he] at s
  obtain ⟨p, rfl, s⟩ := s
  have w := s.w ht
  obtain ⟨ho, hH, had⟩ : ∃ ho, H p = some ho ∧ ads i = [p] := by
    cases o with
    | lst xs => exact ⟨_, s.2.choose_spec.1, s.1⟩
    | dct t kvs =>
      obtain ⟨e, h⟩ := s
      rcases h with ⟨_, ks, h, _⟩ | ⟨_, ks, h, _⟩ <;> exact ⟨_, h, e⟩
    | ins k fs =>
      obtain ⟨e, dx, gs, h, _⟩ := s
      exact ⟨_, h, e⟩
    | boxD _ _ => cases ht
    | boxL _ _ => cases ht
    | lof _ _ => cases ht
  have hpi : p ∈ ads i := by rw [had]; exact List.mem_singleton.mpr rfl
  have hG := (R.own i p hpi).1
  have hni : ¬ i ∈ r.pins.map Prod.fst := fun m => by rw [List.contains_iff_mem.mpr m] at hp; cases hp
  have hH0 : r.H0 p = none := by
    rcases (R.own i p hpi).2 with z | z
    · exact absurd z.1 hni
    · exact z
  obtain ⟨s1, s2⟩ := Step.freeze R.sub hG hH
  have li : i < σ.length := (List.getElem?_eq_some_iff.mp hs).1
  have hrep : Rep c (upd G p ho) t (.ref p) := by
    cases o with
    | lst xs =>
      cases ht
      obtain ⟨_, vs, h, rr⟩ := s
      rw [hH] at h; cases h
      simp only [Rep]
      exact ⟨p, vs, rfl, upd_same, rr.mono s1⟩
    | dct t kvs =>
      cases ht
      obtain ⟨_, h⟩ := s
      simp only [Rep]
      refine ⟨p, rfl, ?_⟩
      rcases h with ⟨z, ks, h, rr⟩ | ⟨z, ks, h, rr⟩
      · rw [hH] at h; cases h; exact .inl ⟨z, ks, upd_same, rr.mono s1⟩
      · rw [hH] at h; cases h; exact .inr ⟨z, ks, upd_same, rr.mono s1⟩
    | ins k fs =>
      cases ht
      obtain ⟨_, dx, gs, h, rr⟩ := s
      rw [hH] at h; cases h
      simp only [Rep]
      exact ⟨p, dx, gs, rfl, upd_same, rr.mono s1⟩
    | boxD _ _ => cases ht
    | boxL _ _ => cases ht
    | lof _ _ => cases ht
  refine ⟨upd G p ho, Nxt.know hG ⟨i, hpi⟩ (fun j a m => by by_cases q : j = i <;> simp [q] at m ⊢; exact m), hrep, ⟨⟨R.step.sub.trans s1, s2, fun a u e => ?_, R.step.keep, R.step.there⟩, by simp [R.len], fun j => ?_, fun j a ha => ?_, fun j k a ha hb => ?_, fun q hq => ?_⟩⟩
  · by_cases z : a = p
    · rw [z]; exact .inr hH0
    · rw [upd_ne z] at e; exact R.step.new a u e
  · by_cases z : j = i
    · subst z
      rw [join_set_self (by rw [R.len]; exact li), if_pos rfl, hs]
      exact ⟨rfl, hrep⟩
    · rw [join_set_ne (Ne.symm z), if_neg z]
      exact (R.slot j).stay s1 fun _ _ _ e => e
  · by_cases z : j = i
    · rw [if_pos z] at ha; cases ha
    · rw [if_neg z] at ha
      refine ⟨?_, (R.own j a ha).2⟩
      have ne : a ≠ p := fun q => z (R.disj j i p (by rw [← q]; exact ha) hpi)
      rw [upd_ne ne]
      exact (R.own j a ha).1
  · by_cases z : j = i
    · rw [if_pos z] at ha; cases ha
    · rw [if_neg z] at ha
      by_cases z' : k = i
      · rw [if_pos z'] at hb; cases hb
      · rw [if_neg z'] at hb; exact R.disj j k a ha hb
  · have ne : q.1 ≠ i := fun e => hni (by rw [← e]; exact List.mem_map_of_mem hq)
    rw [if_neg ne]
    exact R.pin q hq
end

/-! ### freezing an expression's value -/
def frz (x : Vl) (env : En) : RE Vl := match x with
  | .tr t => .ok (.tr t) env
  | .sl i => match env[i]? with
    | some (some (.t t)) => .ok (.tr t) env
    | some (some (.ow o)) => (match o.tree with
      | some t => .ok (.tr t) (env.set i (some (.t t)))
      | none => .bad)
    | _ => .bad
@[simp] def eFrz (pn : List Nat) (ea : EvE) : EvE := fun env => (ea env).bind fun x e => match x with
  | .tr t => .ok (.tr t) e
  | .sl i => if pn.contains i then .bad else frz (.sl i) e
theorem frz_ok {c : TC} {r : Ref} {ads : Nat → List Addr} {G H : Hp} {σ : L2.St} {env : En} (R : RS c r ads G H σ env) {i : Nat} {v : V} (hv : σ[i]? = some (some v)) (hp : (r.pins.map Prod.fst).contains i = false)
    {P : Vl → En → Prop} {W : EX → En → Prop} (h : (frz (.sl i) env).Sat P W) : ∃ t e ads' G', P (.tr t) e ∧ Nxt ads G H ads' G' H ∧ Rep c G' t v ∧ RS c r ads' G' H σ e := by
  simp only [frz] at h
  cases q : env[i]? with
  | none => rw [q] at h; exact h.elim
  | some o =>
    rw [q] at h
    cases o with
    | none => exact h.elim
    | some a =>
      cases a with
      | t t =>
        have s := R.slot i
        rw [hv, q] at s
        exact ⟨t, env, ads, G, h, Nxt.refl _ _ _, s.2, R⟩
      | ow o =>
        cases z : o.tree with
        | none => simp only [z] at h; exact h.elim
        | some t =>
          simp only [z] at h
          obtain ⟨G', s, p, R'⟩ := R.freeze hv q z hp
          exact ⟨t, _, _, G', h, s, p, R'⟩
section
variable {X : Cx} {c : TC} {r : Ref} {W : WX} {a b e : Expr} {es rest : List Expr} {ea eb : EvE} {et eu : EvT} {el : EvA} {pos p : Pos}
theorem pt_frz {pn : List Nat} (hp : r.pins.map Prod.fst = pn) (ha : PE X a (TEof c r W ea)) : PE X a (TEof c r W (eFrz pn ea)) := PE.imp ha fun σ H Q ⟨ads, G, env, R, h⟩ => by
  refine ⟨ads, G, env, R, Sat_mono (Sat_bind.mp h) (fun x e1 h1 ads1 G1 H1 v1 R1 s1 p1 => ?_) fun _ _ z => z⟩
  cases x with
  | tr t => exact h1 ads1 G1 H1 v1 R1 s1 p1
  | sl i =>
    have h1' : (if pn.contains i then RE.bad else frz (.sl i) e1).Sat (fun x env' => ∀ ads' G' H' v, RS c r ads' G' H' σ env' → Nxt ads G H ads' G' H' → VRep c σ G' x v → Q v H') (XC c r W G σ) := h1
    cases q : pn.contains i with
    | true => rw [if_pos q] at h1'; exact h1'.elim
    | false =>
      rw [if_neg (by rw [q]; exact Bool.false_ne_true)] at h1'
      obtain ⟨t, e, ads', G', hP, s, pr, R'⟩ := frz_ok R1 (show σ[i]? = some (some v1) from p1) (by rw [hp]; exact q) h1'
      exact hP ads' G' H1 v1 R' (s1.trans s) pr

/-! ### arguments, displays -/
@[simp] def aNil : EvA := fun env => .ok [] env
@[simp] def aCons (ea : EvE) (el : EvA) : EvA := fun env => (ea env).bind fun x e1 => (el e1).bind fun xs e2 => .ok (x :: xs) e2
/-- *xs in front -/
@[simp] def aStar (ea : EvE) (el : EvA) : EvA := fun env => (ea env).bind fun x e1 => match look e1 x with
  | some (.lst ts) => (el e1).bind fun xs e2 => .ok (ts.map Vl.tr ++ xs) e2
  | some (.tup ts) => (el e1).bind fun xs e2 => .ok (ts.map Vl.tr ++ xs) e2
  | _ => .bad
theorem ta_nil : PA X [] (TAof c r W aNil) := PA.imp pa_nil fun σ H Q ⟨ads, G, env, R, h⟩ => h ads G H [] R (Nxt.refl _ _ _) rfl
theorem VReps.mono {σ : L2.St} {G G1 : Hp} (s : Sub G G1) : ∀ {xs : List Vl} {vs : List V}, VReps c σ G xs vs → VReps c σ G1 xs vs
  | [], _, h => h
  | _ :: _, _, ⟨v, r, e, h, t⟩ => ⟨v, r, e, h.mono s, VReps.mono s t⟩
theorem ta_cons (ha : PE X e (TEof c r W ea)) (hr : PA X es (TAof c r W el)) (hs : starEach (e :: es) X.env = (false, eval e X.env) :: starEach es X.env := by rfl) : PA X (e :: es) (TAof c r W (aCons ea el)) :=
  PA.imp (pa_cons ha hr hs) fun σ H Q ⟨ads, G, env, R, h⟩ => by
    refine ⟨ads, G, env, R, Sat_mono (Sat_bind.mp h) (fun x e1 h1 ads1 G1 H1 v1 R1 s1 p1 => ?_) fun _ _ z => z⟩
    refine ⟨ads1, G1, e1, R1, Sat_mono (Sat_bind.mp h1) (fun xs e2 h2 ads2 G2 H2 v2 R2 s2 p2 => ?_) fun x e z => z.weak s1.sub⟩
    exact h2 ads2 G2 H2 (v1 :: v2) R2 (s1.trans s2) ⟨v1, v2, rfl, p1.mono s2.sub, p2⟩
theorem VReps.trs {σ : L2.St} {G : Hp} : ∀ {ts : List PV} {vs : List V}, RepL c G ts vs → VReps c σ G (ts.map Vl.tr) vs
  | [], _, h => h
  | _ :: _, _, ⟨v, r, e, h, t⟩ => ⟨v, r, e, h, VReps.trs t⟩
theorem VReps.append {σ : L2.St} {G : Hp} : ∀ {xs ys : List Vl} {vs ws : List V}, VReps c σ G xs vs → VReps c σ G ys ws → VReps c σ G (xs ++ ys) (vs ++ ws)
  | [], _, _, _, h, h' => by cases h; exact h'
  | _ :: _, _, _, _, ⟨v, r, e, h, t⟩, h' => by subst e; exact ⟨v, r ++ _, rfl, h, VReps.append t h'⟩
theorem ta_star (hK : X.K = c.K) (ha : PE X e (TEof c r W ea)) (hr : PA X es (TAof c r W el)) (hs : starEach (.Starred e p :: es) X.env = (true, eval e X.env) :: starEach es X.env := by rfl) : PA X (.Starred e p :: es) (TAof c r W (aStar ea el)) :=
  PA.imp (StX.pa_star ha hr hs) fun σ H Q ⟨ads, G, env, R, h⟩ => by
    refine ⟨ads, G, env, R, Sat_mono (Sat_bind.mp h) (fun x e1 h1 ads1 G1 H1 v1 R1 s1 p1 => ?_) fun _ _ z => z⟩
    cases q : look e1 x with
    | none => simp only [q] at h1; exact h1.elim
    | some t =>
      have w := look_rep R1 p1 q
      cases t with
      | lst ts =>
        simp only [q] at h1
        obtain ⟨a, vs, rfl, hx, rr⟩ := w
        refine ⟨a, vs, rfl, .inr (by rw [hK]; exact .inl (.inl hx)), ads1, G1, e1, R1, Sat_mono (Sat_bind.mp h1) (fun xs e2 h2 ads2 G2 H2 v2 R2 s2 p2 => ?_) fun x e z => z.weak s1.sub⟩
        exact h2 ads2 G2 H2 (vs ++ v2) R2 (s1.trans s2) (VReps.append (VReps.trs (rr.mono s2.sub)) p2)
      | tup ts =>
        simp only [q] at h1
        obtain ⟨a, vs, rfl, hx, rr⟩ := w
        refine ⟨a, vs, rfl, .inl (by rw [hK]; exact R1.sub.sqT hx), ads1, G1, e1, R1, Sat_mono (Sat_bind.mp h1) (fun xs e2 h2 ads2 G2 H2 v2 R2 s2 p2 => ?_) fun x e z => z.weak s1.sub⟩
        exact h2 ads2 G2 H2 (vs ++ v2) R2 (s1.trans s2) (VReps.append (VReps.trs (rr.mono s2.sub)) p2)
      | _ => simp only [q] at h1; exact h1.elim
@[simp] def trees : List Vl → Option (List PV)
  | [] => some []
  | .tr t :: r => (trees r).map (t :: ·)
  | .sl _ :: _ => none
theorem trees_rep {σ : L2.St} {G : Hp} : ∀ {xs : List Vl} {vs : List V} {ts : List PV}, VReps c σ G xs vs → trees xs = some ts → RepL c G ts vs
  | [], _, _, h, e => by cases e; exact h
  | .tr t :: xs, _, ts, ⟨v, r, a, h, d⟩, e => by
    subst a
    simp only [trees] at e
    cases q : trees xs with
    | none => rw [q] at e; cases e
    | some us =>
      rw [q] at e
      cases e
      exact ⟨v, r, rfl, h, trees_rep d q⟩
  | .sl _ :: _, _, _, _, e => by cases e
/-- the most items of a display, of a joined list -/
def LIM : Nat := 1000000
theorem lim_line {n : Nat} (h : n ≤ LIM) : n ≤ sizeLine := Nat.le_trans h (by decide)
@[simp] def eTup (el : EvA) : EvE := fun env => (el env).bind fun xs e => match trees xs with
  | some ts => if ts.length ≤ LIM then .ok (.tr (.tup ts)) e else .bad
  | none => .bad
@[simp] def eLst (el : EvA) : EvE := fun env => (el env).bind fun xs e => match trees xs with
  | some ts => if ts.length ≤ LIM then .ok (.tr (.lst ts)) e else .bad
  | none => .bad
theorem pt_tup {x1} (h : PA X es (TAof c r W el)) : PE X (.Tuple es x1 pos) (TEof c r W (eTup el)) := PE.imp (pe_tup h) fun σ H Q ⟨ads, G, env, R, h⟩ => by
  refine ⟨ads, G, env, R, Sat_mono (Sat_bind.mp h) (fun xs e1 h1 ads1 G1 H1 v1 R1 s1 p1 => ?_) fun _ _ z => z⟩
  cases q : trees xs with
  | none => simp only [q] at h1; exact h1.elim
  | some ts =>
    simp only [q] at h1
    by_cases hl : ts.length ≤ LIM
    · rw [if_pos hl] at h1
      have rr := trees_rep p1 q
      refine ⟨by rw [rr.length]; exact lim_line hl, fun a ha => ?_⟩
      have st := Step.alloc (o := .tup v1) R1.sub ha
      refine h1 ads1 _ _ _ (R1.next st) (s1.trans (Nxt.of st)) ?_
      simp only [VRep, Rep]
      exact ⟨a, v1, rfl, .inl (.inl upd_same), rr.mono st.sub⟩
    · rw [if_neg hl] at h1; exact h1.elim
theorem pt_lst (h : PA X es (TAof c r W el)) : PE X (.List es pos) (TEof c r W (eLst el)) := PE.imp (pe_lst h) fun σ H Q ⟨ads, G, env, R, h⟩ => by
  refine ⟨ads, G, env, R, Sat_mono (Sat_bind.mp h) (fun xs e1 h1 ads1 G1 H1 v1 R1 s1 p1 => ?_) fun _ _ z => z⟩
  cases q : trees xs with
  | none => simp only [q] at h1; exact h1.elim
  | some ts =>
    simp only [q] at h1
    by_cases hl : ts.length ≤ LIM
    · rw [if_pos hl] at h1
      have rr := trees_rep p1 q
      refine ⟨by rw [rr.length]; exact lim_line hl, fun a ha => ?_⟩
      have st := Step.alloc (o := .lst v1) R1.sub ha
      refine h1 ads1 _ _ _ (R1.next st) (s1.trans (Nxt.of st)) ?_
      simp only [VRep, Rep]
      exact ⟨a, v1, rfl, upd_same, rr.mono st.sub⟩
    · rw [if_neg hl] at h1; exact h1.elim

/-! ### truth, tests -/
@[simp] def tru : PV → Option Bool
  | .non => some false
  | .bl b => some b
  | .int i => some (i != 0)
  | .str y => some ((y.length : Int) != 0)
  | .lst xs => some (!xs.isEmpty)
  | .tup xs => some (!xs.isEmpty)
  | .dct false kvs => some (!kvs.isEmpty)
  | _ => none
theorem RepL.empty {G : Hp} {ts : List PV} {vs : List V} (h : RepL c G ts vs) : vs.isEmpty = ts.isEmpty := by
  cases ts with
  | nil => cases h; rfl
  | cons _ _ => obtain ⟨v, r, rfl, _⟩ := h; rfl
theorem RepK.empty {G : Hp} {ts : List (PV × PV)} {vs : List (Key × V)} (h : RepK c G ts vs) : vs.isEmpty = ts.isEmpty := by
  cases ts with
  | nil => cases h; rfl
  | cons x _ => obtain ⟨k, y⟩ := x; obtain ⟨q, v, r, rfl, _⟩ := h; rfl
theorem tru_rep {G H : Hp} {t : PV} {v : V} {k : Bool} (s : Sub G H) (h : WRep c G H t v) (e : tru t = some k) : TruV c.K v H k := by
  cases t with
  | non => cases h; cases e; rfl
  | bl b => cases h; cases e; rfl
  | int i => cases h; cases e; rfl
  | str x => obtain ⟨rfl, hx, _⟩ := h; cases e; exact ⟨hx, rfl⟩
  | lst xs => obtain ⟨p, vs, rfl, hx, rr⟩ := h; cases e; exact .inl ⟨vs, .inl (.inl hx), by rw [rr.empty]⟩
  | tup xs => obtain ⟨p, vs, rfl, hx, rr⟩ := h; cases e; exact .inr (.inl ⟨vs, s.sqT hx, by rw [rr.empty]⟩)
  | ins k fs => cases e
  | scr _ => cases e
  | cls _ => cases e
  | slc _ _ => cases e
  | dct t kvs =>
    obtain ⟨p, rfl, h⟩ := h
    cases t with
    | true => cases e
    | false =>
      cases e
      rcases h with ⟨_, ks, h, rr⟩ | ⟨z, _⟩
      · exact .inr (.inr ⟨ks, h, by rw [rr.empty]⟩)
      · cases z
@[simp] def tTru (ea : EvE) : EvT := fun env => (ea env).bind fun x e => match look e x with
  | some t => ofO (tru t) e
  | none => .bad
theorem tt_truth (hK : X.K = c.K) (ha : PE X a (TEof c r W ea)) (he : ∀ whole, isTrue a X.env whole = (do let v ← whole; standAt a.pos; holding [v] (truthy v)) := by intro _; rfl) : PT X a (TTof c r W (tTru ea)) :=
  PT.imp (pt_truth ha he) fun σ H Q ⟨ads, G, env, R, h⟩ => by
    refine ⟨ads, G, env, R, Sat_mono (Sat_bind.mp h) (fun x e1 h1 ads1 G1 H1 v1 R1 s1 p1 => ?_) fun _ _ z => z⟩
    cases q : look e1 x with
    | none => simp only [q] at h1; exact h1.elim
    | some t =>
      simp only [q] at h1
      obtain ⟨k, hk, h2⟩ := Sat_ofO.mp h1
      exact ⟨k, by rw [hK]; exact tru_rep R1.sub (look_rep R1 p1 q) hk, h2 ads1 G1 H1 R1 s1⟩
@[simp] def bOf (x : Vl) : Option Bool := match x with
  | .tr (.bl b) => some b
  | _ => none
theorem bOf_rep {σ : L2.St} {G : Hp} {x : Vl} {v : V} {b : Bool} (h : VRep c σ G x v) (e : bOf x = some b) : v = .bl b := by
  cases x with
  | sl i => cases e
  | tr t =>
    cases t with
    | bl b' => cases e; simpa [VRep, Rep] using h
    | _ => cases e
/-- a value that is a bool, as a test -/
@[simp] def tBl (ea : EvE) : EvT := fun env => (ea env).bind fun x e => ofO (bOf x) e
theorem tt_cmp {op : CmpOp} {f : PV → PV → Option PV} (ho : OpP X c (compareOp op) f) (ha : PE X a (TEof c r W ea)) (hb : PE X b (TEof c r W eb)) (hm : behindInMarks op b = false) : PT X (.Compare a [op] [b] pos) (TTof c r W (tBl (eBin f ea eb))) :=
  PT.imp (pt_cmpR opAny ha hb hm) fun σ H Q ⟨ads, G, env, R, h⟩ => bin_imp ho ⟨ads, G, env, R, Sat_mono (Sat_bind.mp h) (fun x e1 h1 ads1 G1 H1 v1 R1 s1 p1 => by
    obtain ⟨k, hk, h2⟩ := Sat_ofO.mp h1
    exact ⟨k, bOf_rep p1 hk, h2 ads1 G1 H1 R1 s1⟩) fun _ _ z => z⟩
@[simp] def tNt (et : EvT) : EvT := fun env => (et env).bind fun b e => .ok (!b) e
theorem tt_not (ha : PT X a (TTof c r W et)) : PT X (.UnaryOp .Not a pos) (TTof c r W (tNt et)) := PT.imp (pt_not ha) fun σ H Q ⟨ads, G, env, R, h⟩ =>
  ⟨ads, G, env, R, Sat_mono (Sat_bind.mp h) (fun x e1 h1 ads1 G1 H1 R1 s1 => h1 ads1 G1 H1 R1 s1) fun _ _ z => z⟩
@[simp] def tAn (et eu : EvT) : EvT := fun env => (et env).bind fun b e => if b then eu e else .ok false e
@[simp] def tOrr (et eu : EvT) : EvT := fun env => (et env).bind fun b e => if b then .ok true e else eu e
theorem tw_and1 (ha : PT X a (TTof c r W et)) : PW X (.BoolOp .And [a] pos) (TTof c r W et) := pw_and1 ha
theorem tw_or1 (ha : PT X a (TTof c r W et)) : PW X (.BoolOp .Or [a] pos) (TTof c r W et) := pw_or1 ha
theorem tw_and (ha : PT X a (TTof c r W et)) (hb : PW X (.BoolOp .And (b :: rest) pos) (TTof c r W eu)) : PW X (.BoolOp .And (a :: b :: rest) pos) (TTof c r W (tAn et eu)) := PW.imp (pw_and ha hb) fun σ H Q ⟨ads, G, env, R, h⟩ => by
  refine ⟨ads, G, env, R, Sat_mono (Sat_bind.mp h) (fun x e1 h1 ads1 G1 H1 R1 s1 => ?_) fun _ _ z => z⟩
  cases x with
  | true => exact iteT ⟨ads1, G1, e1, R1, Sat_mono h1 (fun y e2 h2 ads2 G2 H2 R2 s2 => h2 ads2 G2 H2 R2 (s1.trans s2)) fun x e z => z.weak s1.sub⟩
  | false => exact iteF (h1 ads1 G1 H1 R1 s1)
theorem tw_or (ha : PT X a (TTof c r W et)) (hb : PW X (.BoolOp .Or (b :: rest) pos) (TTof c r W eu)) : PW X (.BoolOp .Or (a :: b :: rest) pos) (TTof c r W (tOrr et eu)) := PW.imp (pw_or ha hb) fun σ H Q ⟨ads, G, env, R, h⟩ => by
  refine ⟨ads, G, env, R, Sat_mono (Sat_bind.mp h) (fun x e1 h1 ads1 G1 H1 R1 s1 => ?_) fun _ _ z => z⟩
  cases x with
  | false => exact iteF ⟨ads1, G1, e1, R1, Sat_mono h1 (fun y e2 h2 ads2 G2 H2 R2 s2 => h2 ads2 G2 H2 R2 (s1.trans s2)) fun x e z => z.weak s1.sub⟩
  | true => exact iteT (h1 ads1 G1 H1 R1 s1)
theorem tt_w (h : PW X a (TTof c r W et)) : PT X a (TTof c r W et) := h.pt
/-! values of and, or, not -/
@[simp] def eAnd (ea eb : EvE) : EvE := fun env => (ea env).bind fun x e => match (look e x).bind tru with
  | some true => eb e
  | some false => .ok x e
  | none => .bad
@[simp] def eOr (ea eb : EvE) : EvE := fun env => (ea env).bind fun x e => match (look e x).bind tru with
  | some false => eb e
  | some true => .ok x e
  | none => .bad
@[simp] def eNot (ea : EvE) : EvE := fun env => (ea env).bind fun x e => match (look e x).bind tru with
  | some k => .ok (.tr (.bl (!k))) e
  | none => .bad
theorem look_tru {ads : Nat → List Addr} {G H : Hp} {σ : L2.St} {env : En} (R : RS c r ads G H σ env) {x : Vl} {v : V} {k : Bool} (h : VRep c σ G x v) (e : (look env x).bind tru = some k) : TruV c.K v H k := by
  cases q : look env x with
  | none => rw [q] at e; cases e
  | some t => rw [q] at e; exact tru_rep R.sub (look_rep R h q) e
theorem pt_one {op} (ha : PE X a (TEof c r W ea)) : PE X (.BoolOp op [a] pos) (TEof c r W ea) := pe_one ha
theorem pt_and (hK : X.K = c.K) (ha : PE X a (TEof c r W ea)) (hb : PE X (.BoolOp .And (b :: rest) pos) (TEof c r W eb)) : PE X (.BoolOp .And (a :: b :: rest) pos) (TEof c r W (eAnd ea eb)) := PE.imp (pe_andT ha hb) fun σ H Q ⟨ads, G, env, R, h⟩ => by
  refine ⟨ads, G, env, R, Sat_mono (Sat_bind.mp h) (fun x e1 h1 ads1 G1 H1 v1 R1 s1 p1 => ?_) fun _ _ z => z⟩
  cases q : (look e1 x).bind tru with
  | none => simp only [q] at h1; exact h1.elim
  | some k =>
    refine ⟨k, by rw [hK]; exact look_tru R1 p1 q, ?_⟩
    simp only [q] at h1
    cases k with
    | true => exact iteT ⟨ads1, G1, e1, R1, Sat_mono h1 (fun y e2 h2 ads2 G2 H2 v2 R2 s2 p2 => h2 ads2 G2 H2 v2 R2 (s1.trans s2) p2) fun x e z => z.weak s1.sub⟩
    | false => exact iteF (h1 ads1 G1 H1 v1 R1 s1 p1)
theorem pt_or (hK : X.K = c.K) (ha : PE X a (TEof c r W ea)) (hb : PE X (.BoolOp .Or (b :: rest) pos) (TEof c r W eb)) : PE X (.BoolOp .Or (a :: b :: rest) pos) (TEof c r W (eOr ea eb)) := PE.imp (pe_orT ha hb) fun σ H Q ⟨ads, G, env, R, h⟩ => by
  refine ⟨ads, G, env, R, Sat_mono (Sat_bind.mp h) (fun x e1 h1 ads1 G1 H1 v1 R1 s1 p1 => ?_) fun _ _ z => z⟩
  cases q : (look e1 x).bind tru with
  | none => simp only [q] at h1; exact h1.elim
  | some k =>
    refine ⟨k, by rw [hK]; exact look_tru R1 p1 q, ?_⟩
    simp only [q] at h1
    cases k with
    | false => exact iteF ⟨ads1, G1, e1, R1, Sat_mono h1 (fun y e2 h2 ads2 G2 H2 v2 R2 s2 p2 => h2 ads2 G2 H2 v2 R2 (s1.trans s2) p2) fun x e z => z.weak s1.sub⟩
    | true => exact iteT (h1 ads1 G1 H1 v1 R1 s1 p1)
theorem pt_notV (hK : X.K = c.K) (ha : PE X a (TEof c r W ea)) : PE X (.UnaryOp .Not a pos) (TEof c r W (eNot ea)) := PE.imp (pe_notT ha) fun σ H Q ⟨ads, G, env, R, h⟩ => by
  refine ⟨ads, G, env, R, Sat_mono (Sat_bind.mp h) (fun x e1 h1 ads1 G1 H1 v1 R1 s1 p1 => ?_) fun _ _ z => z⟩
  cases q : (look e1 x).bind tru with
  | none => simp only [q] at h1; exact h1.elim
  | some k =>
    simp only [q] at h1
    exact ⟨k, by rw [hK]; exact look_tru R1 p1 q, h1 ads1 G1 H1 _ R1 s1 (by simp [VRep, Rep])⟩
@[simp] def eIf (et : EvT) (ea eb : EvE) : EvE := fun env => (et env).bind fun b e => if b then ea e else eb e
theorem pt_if {t : Expr} (ht : PT X t (TTof c r W et)) (ha : PE X a (TEof c r W ea)) (hb : PE X b (TEof c r W eb)) : PE X (.IfExp t a b pos) (TEof c r W (eIf et ea eb)) := PE.imp (pe_ifExp ht ha hb) fun σ H Q ⟨ads, G, env, R, h⟩ => by
  refine ⟨ads, G, env, R, Sat_mono (Sat_bind.mp h) (fun x e1 h1 ads1 G1 H1 R1 s1 => ?_) fun _ _ z => z⟩
  cases x with
  | true => exact iteT ⟨ads1, G1, e1, R1, Sat_mono h1 (fun y e2 h2 ads2 G2 H2 v2 R2 s2 p2 => h2 ads2 G2 H2 v2 R2 (s1.trans s2) p2) fun x e z => z.weak s1.sub⟩
  | false => exact iteF ⟨ads1, G1, e1, R1, Sat_mono h1 (fun y e2 h2 ads2 G2 H2 v2 R2 s2 p2 => h2 ads2 G2 H2 v2 R2 (s1.trans s2) p2) fun x e z => z.weak s1.sub⟩
end
end TreeL
end
section
/-! TL4: new objects of our own (TFof), statements (SO, TSof), assignments, if, return, while, for. -/
namespace TreeL
open PySem PySem.Spec PyProof.Rows L2

/-! ### a new object that nobody else has -/
abbrev EvF := En → RE OS
def New (r : Ref) (ads : Nat → List Addr) (G : Hp) (p : Addr) : Prop := G p = none ∧ r.H0 p = none ∧ ∀ j, p ∉ ads j
def TFof (c : TC) (r : Ref) (W : WX) (ev : EvF) : TE := fun σ H Q => ∃ ads G env, RS c r ads G H σ env ∧
  (ev env).Sat (fun o env' => ∀ ads' G' H' p ad, RS c r ads' G' H' σ env' → Nxt ads G H ads' G' H' → OwRep c G' H' p ad o → (∀ a ∈ ad, New r ads' G' a ∧ H a = none) → Q (.ref p) H') (XC c r W G σ)
/-- a tree, or a new object that nobody else has -/
abbrev EvR := En → RE Arg
def ResNew (c : TC) (r : Ref) (ads' : Nat → List Addr) (G' H H' : Hp) : Arg → V → Prop
  | .t t, v => Rep c G' t v
  | .ow o, v => ∃ p ad, v = .ref p ∧ OwRep c G' H' p ad o ∧ ∀ a ∈ ad, New r ads' G' a ∧ H a = none
def TRof (c : TC) (r : Ref) (W : WX) (ev : EvR) : TE := fun σ H Q => ∃ ads G env, RS c r ads G H σ env ∧
  (ev env).Sat (fun o env' => ∀ ads' G' H' v, RS c r ads' G' H' σ env' → Nxt ads G H ads' G' H' → ResNew c r ads' G' H H' o v → Q v H') (XC c r W G σ)
@[simp] def eRes (ev : EvR) : EvE := fun env => (ev env).bind fun a e => match a with
  | .t t => .ok (.tr t) e
  | .ow o => match o.tree with
    | some t => .ok (.tr t) e
    | none => .bad
@[simp] def fRes (ev : EvR) : EvF := fun env => (ev env).bind fun a e => match a with
  | .t _ => .bad
  | .ow o => .ok o e
/-- it may be known for good at once -/
@[simp] def eOf (ef : EvF) : EvE := fun env => (ef env).bind fun o e => match o.tree with
  | some t => .ok (.tr t) e
  | none => .bad
section
variable {c : TC} {r : Ref} {ads : Nat → List Addr} {G H : Hp} {σ : L2.St} {env : En}
theorem OwRep.ad {p : Addr} {ad : List Addr} {o : OS} {t : PV} (h : OwRep c G H p ad o) (ht : o.tree = some t) : ad = [p] := by
  cases o with
  | lst xs => exact h.1
  | dct t kvs => exact h.1
  | ins k fs => exact h.1
  | boxD _ _ => cases ht
  | boxL _ _ => cases ht
  | lof _ _ => cases ht
theorem OwRep.one {p : Addr} {ad : List Addr} {o : OS} {t : PV} (h : OwRep c G H p ad o) (ht : o.tree = some t) : ∃ ho, H p = some ho := h.has p (by rw [h.ad ht]; exact List.mem_singleton.mpr rfl)
/-- an owned object, known for good -/
theorem OwRep.known {p : Addr} {ad : List Addr} {o : OS} {t : PV} {ho : HO} (h : OwRep c G H p ad o) (ht : o.tree = some t) (hp : H p = some ho) (s : Sub G (upd G p ho)) : Rep c (upd G p ho) t (.ref p) := by
  cases o with
  | lst xs =>
    cases ht
    obtain ⟨_, vs, h, rr⟩ := h
    rw [hp] at h; cases h
    simp only [Rep]
    exact ⟨p, vs, rfl, upd_same, rr.mono s⟩
  | dct t kvs =>
    cases ht
    obtain ⟨_, h⟩ := h
    simp only [Rep]
    refine ⟨p, rfl, ?_⟩
    rcases h with ⟨z, ks, h, rr⟩ | ⟨z, ks, h, rr⟩
    · rw [hp] at h; cases h; exact .inl ⟨z, ks, upd_same, rr.mono s⟩
    · rw [hp] at h; cases h; exact .inr ⟨z, ks, upd_same, rr.mono s⟩
  | ins k fs =>
    cases ht
    obtain ⟨_, dx, gs, h, rr⟩ := h
    rw [hp] at h; cases h
    simp only [Rep]
    exact ⟨p, dx, gs, rfl, upd_same, rr.mono s⟩
  | boxD _ _ => cases ht
  | boxL _ _ => cases ht
  | lof _ _ => cases ht
/-- more is known for good -/
theorem RS.know (R : RS c r ads G H σ env) {p : Addr} {ho : HO} (hp : H p = some ho) (hn : New r ads G p) : Sub G (upd G p ho) ∧ RS c r ads (upd G p ho) H σ env := by
  obtain ⟨s1, s2⟩ := Step.freeze R.sub hn.1 hp
  refine ⟨s1, ⟨⟨R.step.sub.trans s1, s2, fun a u e => ?_, R.step.keep, R.step.there⟩, R.len, fun j => (R.slot j).stay s1 fun _ _ _ e => e, fun j a ha => ⟨?_, (R.own j a ha).2⟩, R.disj, R.pin⟩⟩
  · by_cases z : a = p
    · rw [z]; exact .inr hn.2.1
    · rw [upd_ne z] at e; exact R.step.new a u e
  · have ne : a ≠ p := fun q => hn.2.2 j (by rw [← q]; exact ha)
    rw [upd_ne ne]
    exact (R.own j a ha).1
theorem New.of (R : RS c r ads G H σ env) {p : Addr} (hp : H p = none) : New r ads G p := by
  refine ⟨?_, R.step.there p hp, fun j hj => ?_⟩
  · cases e : G p with
    | none => rfl
    | some u =>
      have z := R.sub _ _ e
      rw [hp] at z; cases z
  · obtain ⟨u, e⟩ := R.ownSome hj
    rw [hp] at e; cases e
/-- a new object of our own is laid -/
theorem RS.lay (R : RS c r ads G H σ env) {p : Addr} {ho : HO} (hp : H p = none) : RS c r ads G (upd H p ho) σ env := R.next (Step.allocO R.sub hp)
end
section
variable {X : Cx} {c : TC} {r : Ref} {W : WX} {a b e : Expr} {es rest : List Expr} {ea eb : EvE} {et eu : EvT} {el : EvA} {ef : EvF} {pos p : Pos}
theorem pt_of (h : PE X e (TFof c r W ef)) : PE X e (TEof c r W (eOf ef)) := PE.imp h fun σ H Q ⟨ads, G, env, R, h⟩ => by
  refine ⟨ads, G, env, R, Sat_mono (Sat_bind.mp h) (fun o e1 h1 ads1 G1 H1 p1 ad R1 s1 ow nw => ?_) fun _ _ z => z⟩
  cases q : o.tree with
  | none => simp only [q] at h1; exact h1.elim
  | some t =>
    simp only [q] at h1
    obtain ⟨ho, hp⟩ := ow.one q
    have n1 := nw p1 (by rw [ow.ad q]; exact List.mem_singleton.mpr rfl)
    obtain ⟨s2, R2⟩ := R1.know hp n1.1
    exact h1 ads1 _ H1 (.ref p1) R2 (s1.fresh n1.1.1 n1.2) (ow.known q hp s2)
theorem pt_res {er : EvR} (h : PE X e (TRof c r W er)) : PE X e (TEof c r W (eRes er)) := PE.imp h fun σ H Q ⟨ads, G, env, R, h⟩ => by
  refine ⟨ads, G, env, R, Sat_mono (Sat_bind.mp h) (fun o e1 h1 ads1 G1 H1 v1 R1 s1 ow => ?_) fun _ _ z => z⟩
  cases o with
  | t t => exact h1 ads1 G1 H1 v1 R1 s1 ow
  | ow o =>
    obtain ⟨p1, ad, rfl, ow, nw⟩ := ow
    cases q : o.tree with
    | none => simp only [q] at h1; exact h1.elim
    | some t =>
      simp only [q] at h1
      obtain ⟨ho, hp⟩ := ow.one q
      have n1 := nw p1 (by rw [ow.ad q]; exact List.mem_singleton.mpr rfl)
      obtain ⟨s2, R2⟩ := R1.know hp n1.1
      exact h1 ads1 _ H1 (.ref p1) R2 (s1.fresh n1.1.1 n1.2) (ow.known q hp s2)
theorem pf_res {er : EvR} (h : PE X e (TRof c r W er)) : PE X e (TFof c r W (fRes er)) := PE.imp h fun σ H Q ⟨ads, G, env, R, h⟩ => by
  refine ⟨ads, G, env, R, Sat_mono (Sat_bind.mp h) (fun o e1 h1 ads1 G1 H1 v1 R1 s1 ow => ?_) fun _ _ z => z⟩
  cases o with
  | t t => exact h1.elim
  | ow o =>
    obtain ⟨p1, ad, rfl, ow, nw⟩ := ow
    exact h1 ads1 G1 H1 p1 ad R1 s1 ow nw
@[simp] def fLst (el : EvA) : EvF := fun env => (el env).bind fun xs e => match trees xs with
  | some ts => if ts.length ≤ LIM then .ok (.lst ts) e else .bad
  | none => .bad
theorem pf_lst (h : PA X es (TAof c r W el)) : PE X (.List es pos) (TFof c r W (fLst el)) := PE.imp (pe_lst h) fun σ H Q ⟨ads, G, env, R, h⟩ => by
  refine ⟨ads, G, env, R, Sat_mono (Sat_bind.mp h) (fun xs e1 h1 ads1 G1 H1 v1 R1 s1 p1 => ?_) fun _ _ z => z⟩
  cases q : trees xs with
  | none => simp only [q] at h1; exact h1.elim
  | some ts =>
    simp only [q] at h1
    by_cases hl : ts.length ≤ LIM
    · rw [if_pos hl] at h1
      have rr := trees_rep p1 q
      refine ⟨by rw [rr.length]; exact lim_line hl, fun a ha => ?_⟩
      exact h1 ads1 G1 _ a [a] (R1.lay ha) (s1.trans (Nxt.of (Step.allocO R1.sub ha))) ⟨rfl, v1, upd_same, rr⟩ fun b hb => by rw [List.mem_singleton.mp hb]; exact ⟨New.of R1 ha, s1.there a ha⟩
    · rw [if_neg hl] at h1; exact h1.elim
end

/-! ### statements -/
inductive SO where
  | nx (e : En) | rt (t : Arg) (e : En) | bk (e : En) | ct (e : En) | exc (x : EX) (e : En) | bad
abbrev EvS := En → SO
structure SK where
  nx : En → Prop
  rt : Arg → En → Prop
  bk : En → Prop
  ct : En → Prop
  ex : EX → En → Prop
def SO.Sat (k : SK) : SO → Prop
  | .nx e => k.nx e
  | .rt t e => k.rt t e
  | .bk e => k.bk e
  | .ct e => k.ct e
  | .exc x e => k.ex x e
  | .bad => False
@[simp] def SO.bind (s : SO) (f : En → SO) : SO := match s with
  | .nx e => f e
  | s => s
theorem SO.Sat_bind {s : SO} {f : En → SO} {k : SK} : (s.bind f).Sat k ↔ s.Sat { k with nx := fun e => (f e).Sat k } := by
  cases s <;> rfl
theorem SO.Sat_mono {s : SO} {k k' : SK} (h : s.Sat k) (h1 : ∀ e, k.nx e → k'.nx e) (h2 : ∀ t e, k.rt t e → k'.rt t e) (h3 : ∀ e, k.bk e → k'.bk e) (h4 : ∀ e, k.ct e → k'.ct e) (h5 : ∀ x e, k.ex x e → k'.ex x e) : s.Sat k' := by
  cases s with
  | nx e => exact h1 e h
  | rt t e => exact h2 t e h
  | bk e => exact h3 e h
  | ct e => exact h4 e h
  | exc x e => exact h5 x e h
  | bad => exact h
/-- from an expression's result to a statement's -/
@[simp] def RE.so {α : Type} (x : RE α) (f : α → En → SO) : SO := match x with
  | .ok a e => f a e
  | .exc x e => .exc x e
  | .bad => .bad
theorem RE.so_Sat {α : Type} {x : RE α} {f : α → En → SO} {k : SK} : (x.so f).Sat k ↔ x.Sat (fun a e => (f a e).Sat k) k.ex := by
  cases x <;> rfl
/-- what a def gives: a tree, or an object that was not there when the def was called, which nobody else has -/
def RetRep (c : TC) (H0 : Hp) (G' H' : Hp) : Arg → V → Prop
  | .t t, v => Rep c G' t v
  | .ow o, v => ∃ p ad, v = .ref p ∧ OwRep c G' H' p ad o ∧ ∀ a ∈ ad, G' a = none ∧ H0 a = none
/-- what is wanted behind a statement, of trees -/
def Kof (c : TC) (r : Ref) (W : WX) (G : Hp) (D : Ends) : SK where
  nx := fun env' => ∀ ads' G' H' σ', RS c r ads' G' H' σ' env' → Sub G G' → D.nx σ' H'
  rt := fun t env' => ∀ ads' G' H' σ' v, RS c r ads' G' H' σ' env' → Sub G G' → RetRep c r.H0 G' H' t v → D.rt v H'
  bk := fun env' => ∀ ads' G' H' σ', RS c r ads' G' H' σ' env' → Sub G G' → D.bk σ' H'
  ct := fun env' => ∀ ads' G' H' σ', RS c r ads' G' H' σ' env' → Sub G G' → D.ct σ' H'
  ex := fun x env' => ∀ ads' G' H' σ' cls d, RS c r ads' G' H' σ' env' → Sub G G' → RepX c G' x cls d H' → W cls d σ' H'
def TSof (c : TC) (r : Ref) (W : WX) (ex : EvS) : TS := fun D σ H => ∃ ads G env, RS c r ads G H σ env ∧ (ex env).Sat (Kof c r W G D)
theorem Kof.weak {c : TC} {r : Ref} {W : WX} {G G1 : Hp} {D : Ends} (s : Sub G G1) {o : SO} (h : o.Sat (Kof c r W G D)) : o.Sat (Kof c r W G1 D) :=
  SO.Sat_mono h (fun e h a b d σ R s' => h a b d σ R (s.trans s')) (fun t e h a b d σ v R s' => h a b d σ v R (s.trans s')) (fun e h a b d σ R s' => h a b d σ R (s.trans s')) (fun e h a b d σ R s' => h a b d σ R (s.trans s'))
    fun x e h a b d σ cls dd R s' => h a b d σ cls dd R (s.trans s')
theorem XC.of {c : TC} {r : Ref} {W : WX} {G : Hp} {D : Ends} {σ : L2.St} {x : EX} {e : En} (h : (Kof c r W G D).ex x e) : XC c r W G σ x e := fun a b d cls dd R s p => h a b d σ cls dd R s p
@[simp] def sSkip : EvS := fun env => .nx env
@[simp] def sSeq (x y : EvS) : EvS := fun env => (x env).bind y
section
variable {X : Cx} {c : TC} {r : Ref} {W : WX} {st : Stmt} {sts : List Stmt} {xs ys : EvS} {e : Expr} {ea : EvE} {et : EvT} {pos : Pos}
theorem tss_nil : PSs X [] (TSof c r W sSkip) := PSs.imp pss_nil fun D σ H ⟨ads, G, env, R, h⟩ => h ads G H σ R (Sub.refl _)
theorem tss_cons (h1 : PS X st (TSof c r W xs)) (h2 : PSs X sts (TSof c r W ys)) : PSs X (st :: sts) (TSof c r W (sSeq xs ys)) := PSs.imp (pss_cons h1 h2) fun D σ H ⟨ads, G, env, R, h⟩ =>
  ⟨ads, G, env, R, SO.Sat_mono (SO.Sat_bind.mp h) (fun e1 h1 ads1 G1 H1 σ1 R1 s1 => ⟨ads1, G1, e1, R1, Kof.weak s1 h1⟩) (fun _ _ z => z) (fun _ z => z) (fun _ z => z) fun _ _ z => z⟩
theorem tss_one (h1 : PS X st (TSof c r W xs)) : PSs X [st] (TSof c r W xs) := pss_one h1
theorem ts_pass : PS X (.Pass pos) (TSof c r W sSkip) := PS.imp ps_pass fun D σ H ⟨ads, G, env, R, h⟩ => h ads G H σ R (Sub.refl _)
@[simp] def sBreak : EvS := fun env => .bk env
@[simp] def sCont : EvS := fun env => .ct env
theorem ts_break : PS X (.Break pos) (TSof c r W sBreak) := PS.imp ps_break fun D σ H ⟨ads, G, env, R, h⟩ => h ads G H σ R (Sub.refl _)
theorem ts_cont : PS X (.Continue pos) (TSof c r W sCont) := PS.imp ps_continue fun D σ H ⟨ads, G, env, R, h⟩ => h ads G H σ R (Sub.refl _)
@[simp] def sEx (ea : EvE) : EvS := fun env => (ea env).so fun _ e => .nx e
theorem ts_expr (he : PE X e (TEof c r W ea)) (hs : swapsWith e none pos.line X.env = pure false := by rfl) : PS X (.Expr e pos) (TSof c r W (sEx ea)) := PS.imp (ps_expr he hs) fun D σ H ⟨ads, G, env, R, h⟩ =>
  ⟨ads, G, env, R, Sat_mono (RE.so_Sat.mp h) (fun x e1 h1 ads1 G1 H1 v1 R1 s1 p1 => h1 ads1 G1 H1 σ R1 s1.sub) fun x e z => XC.of z⟩
/-- pn: the slots that must stay -/
@[simp] def sRet (pn : List Nat) (ea : EvE) : EvS := fun env => (ea env).so fun x e => match x with
  | .tr t => .rt (.t t) e
  | .sl i => if pn.contains i then .bad else match e[i]? with
    | some (some a) => .rt a e
    | _ => .bad
theorem ts_ret {pn : List Nat} (hp : r.pins.map Prod.fst = pn) (he : PE X e (TEof c r W ea)) : PS X (.Return (some e) pos) (TSof c r W (sRet pn ea)) := PS.imp (ps_ret he) fun D σ H ⟨ads, G, env, R, h⟩ =>
  ⟨ads, G, env, R, Sat_mono (RE.so_Sat.mp h) (fun x e1 h1 ads1 G1 H1 v1 R1 s1 p1 => by
    cases x with
    | tr t => exact h1 ads1 G1 H1 σ v1 R1 s1.sub p1
    | sl i =>
      have h1' : (if pn.contains i then SO.bad else match e1[i]? with
        | some (some a) => .rt a e1
        | _ => .bad).Sat (Kof c r W G D) := h1
      by_cases q : pn.contains i = true
      · rw [if_pos q] at h1'; exact h1'.elim
      · rw [if_neg q] at h1'
        have p2 : σ[i]? = some (some v1) := p1
        have sl := R1.slot i
        rw [p2] at sl
        cases z : e1[i]? with
        | none => rw [z] at h1'; exact h1'.elim
        | some o =>
          rw [z] at h1' sl
          cases o with
          | none => exact h1'.elim
          | some a =>
            refine h1' ads1 G1 H1 σ v1 R1 s1.sub ?_
            cases a with
            | t t => exact sl.2
            | ow o =>
              obtain ⟨p, e0, ow⟩ := sl
              refine ⟨p, ads1 i, e0, ow, fun a ha => ⟨(R1.own i a ha).1, ?_⟩⟩
              rcases (R1.own i a ha).2 with y | y
              · rw [hp] at y
                exact absurd (List.contains_iff_mem.mpr y.1) q
              · exact y) fun x e z => XC.of z⟩
/-- a new object is given -/
@[simp] def sRetF (ef : EvF) : EvS := fun env => (ef env).so fun o e => .rt (.ow o) e
theorem ts_retF {ef : EvF} (he : PE X e (TFof c r W ef)) : PS X (.Return (some e) pos) (TSof c r W (sRetF ef)) := PS.imp (ps_ret he) fun D σ H ⟨ads, G, env, R, h⟩ =>
  ⟨ads, G, env, R, Sat_mono (RE.so_Sat.mp h) (fun o e1 h1 ads1 G1 H1 p ad R1 s1 ow nw =>
    h1 ads1 G1 H1 σ (.ref p) R1 s1.sub ⟨p, ad, rfl, ow, fun a ha => ⟨(nw a ha).1.1, (nw a ha).1.2.1⟩⟩) fun x e z => XC.of z⟩
@[simp] def sRetN : EvS := fun env => .rt (.t .non) env
theorem ts_retN : PS X (.Return none pos) (TSof c r W sRetN) := PS.imp ps_retN fun D σ H ⟨ads, G, env, R, h⟩ => h ads G H σ .non R (Sub.refl _) (by simp [RetRep, Rep])
@[simp] def sIf (et : EvT) (xs ys : EvS) : EvS := fun env => (et env).so fun b e => if b then xs e else ys e
theorem ts_if {t : Expr} {a b : List Stmt} (ht : PT X t (TTof c r W et)) (ha : PSs X a (TSof c r W xs)) (hb : PSs X b (TSof c r W ys)) : PS X (.If t a b pos) (TSof c r W (sIf et xs ys)) := PS.imp (ps_if ht ha hb) fun D σ H ⟨ads, G, env, R, h⟩ =>
  ⟨ads, G, env, R, Sat_mono (RE.so_Sat.mp h) (fun x e1 h1 ads1 G1 H1 R1 s1 => by
    cases x with
    | true => exact iteT ⟨ads1, G1, e1, R1, Kof.weak s1.sub h1⟩
    | false => exact iteF ⟨ads1, G1, e1, R1, Kof.weak s1.sub h1⟩) fun x e z => XC.of z⟩
end

/-! ### targets -/
abbrev Tg := PV → En → Option En
/-- vs: the slots that may be stored -/
def TGof (c : TC) (r : Ref) (vs : List Nat) (ag : Tg) : TG := fun v σ H Q => ∃ ads G env t env', RS c r ads G H σ env ∧ Rep c G t v ∧ ag t env = some env' ∧ ∀ ads' σ', RS c r ads' G H σ' env' → σ'.length = σ.length → (∀ j, j ∉ vs → σ'[j]? = σ[j]?) → (∀ j, j ∉ vs → ads' j = ads j) → (∀ j, j ∈ vs → ads' j = [] ∨ ads' j = ads j) → Q σ' H
def TGsof (c : TC) (r : Ref) (vs : List Nat) (ag : List PV → En → Option En) : TGs := fun xs σ H Q => ∃ ads G env ts env', RS c r ads G H σ env ∧ RepL c G ts xs ∧ ag ts env = some env' ∧ ∀ ads' σ', RS c r ads' G H σ' env' → σ'.length = σ.length → (∀ j, j ∉ vs → σ'[j]? = σ[j]?) → (∀ j, j ∉ vs → ads' j = ads j) → (∀ j, j ∈ vs → ads' j = [] ∨ ads' j = ads j) → Q σ' H
@[simp] def gNm (i : Nat) : Tg := fun t env => some (env.set i (some (.t t)))
@[simp] def gsNil : List PV → En → Option En := fun ts env => match ts with
  | [] => some env
  | _ => none
@[simp] def gsCons (g : Tg) (gs : List PV → En → Option En) : List PV → En → Option En := fun ts env => match ts with
  | [] => none
  | t :: ts => (g t env).bind (gs ts)
@[simp] def gTp (n : Nat) (gs : List PV → En → Option En) : Tg := fun t env => match t with
  | .tup ts => if ts.length = n then gs ts env else none
  | _ => none
section
variable {X : Cx} {c : TC} {r : Ref} {W : WX} {tg e : Expr} {es : List Expr} {g : Tg} {gs : List PV → En → Option En} {ea : EvE} {pos : Pos} {us ws : List Nat}
theorem PG.imp {t t' : TG} (h : PG X tg t) (i : ∀ v σ H Q, t' v σ H Q → t v σ H Q) : PG X tg t' := ⟨fun pins s σ H v u Q I rv q => h.run pins s σ H v u Q I rv (i v σ H Q q)⟩
theorem PGs.imp {t t' : TGs} (h : PGs X es t) (i : ∀ v σ H Q, t' v σ H Q → t v σ H Q) : PGs X es t' := ⟨fun pins s σ H v u Q I rv q => h.run pins s σ H v u Q I rv (i v σ H Q q)⟩
theorem tg_name {i : Nat} (h : PG X tg (gName i)) (hp : (r.pins.map Prod.fst).contains i = false) : PG X tg (TGof c r [i] (gNm i)) := PG.imp h fun v σ H Q ⟨ads, G, env, t, env', R, rp, e, k⟩ => by
  cases e
  refine k _ _ (R.set rp hp) (by simp) (fun j hj => ?_) (fun j hj => ?_) fun j hj => ?_
  · exact List.getElem?_set_ne fun z => hj (by rw [z]; exact List.mem_singleton.mpr rfl)
  · exact if_neg fun z => hj (by rw [z]; exact List.mem_singleton.mpr rfl)
  · exact .inl (if_pos (List.mem_singleton.mp hj))
theorem tgs_nil : PGs X [] (TGsof c r [] gsNil) := PGs.imp pgs_nil fun vs σ H Q ⟨ads, G, env, ts, env', R, rp, e, k⟩ => by
  cases ts with
  | nil => cases e; cases rp; exact ⟨rfl, k _ _ R rfl (fun _ _ => rfl) (fun _ _ => rfl) fun _ z => nomatch z⟩
  | cons _ _ => cases e
theorem tgs_cons (h1 : PG X e (TGof c r us g)) (h2 : PGs X es (TGsof c r ws gs)) (hs : (assignEach (e :: es) X.env).map (·.2) = assign e X.env :: (assignEach es X.env).map (·.2) := by rfl) : PGs X (e :: es) (TGsof c r (us ++ ws) (gsCons g gs)) :=
  PGs.imp (pgs_cons h1 h2 hs) fun vs σ H Q ⟨ads, G, env, ts, env', R, rp, e, k⟩ => by
    cases ts with
    | nil => cases e
    | cons t ts =>
      obtain ⟨v, rest, rfl, hv, hr⟩ := rp
      simp only [gsCons] at e
      cases q : g t env with
      | none => rw [q] at e; cases e
      | some e1 =>
        rw [q] at e
        refine ⟨v, rest, rfl, ads, G, env, t, e1, R, hv, q, fun ads1 σ1 R1 l1 a1 b1 c1 => ⟨ads1, G, e1, ts, env', R1, hr, e, fun ads2 σ2 R2 l2 a2 b2 c2 => ?_⟩⟩
        refine k ads2 σ2 R2 (l2.trans l1) (fun j hj => ?_) (fun j hj => ?_) fun j hj => ?_
        · rw [List.mem_append] at hj
          rw [a2 j fun z => hj (.inr z), a1 j fun z => hj (.inl z)]
        · rw [List.mem_append] at hj
          rw [b2 j fun z => hj (.inr z), b1 j fun z => hj (.inl z)]
        · have p1 : ads1 j = [] ∨ ads1 j = ads j := by
            by_cases z : j ∈ us
            · exact c1 j z
            · exact .inr (b1 j z)
          have p2 : ads2 j = [] ∨ ads2 j = ads1 j := by
            by_cases z : j ∈ ws
            · exact c2 j z
            · exact .inr (b2 j z)
          rcases p2 with z | z
          · exact .inl z
          · rw [z]; exact p1
theorem tg_tup {k n : Nat} (hK : X.K = c.K) (hc : X.calm = true) (h : PGs X es (TGsof c r ws gs)) (hn : (assignEach es X.env).length = n := by rfl) (hst : (assignEach es X.env).findIdx? (·.1) = none := by rfl) : PG X (.Tuple es k pos) (TGof c r ws (gTp n gs)) :=
  PG.imp (pg_tup hc h hn hst) fun v σ H Q ⟨ads, G, env, t, env', R, rp, e, k⟩ => by
    cases t with
    | tup ts =>
      simp only [gTp] at e
      by_cases l : ts.length = n
      · rw [if_pos l] at e
        simp only [Rep] at rp
        obtain ⟨a, vs, rfl, hs, rr⟩ := rp
        exact ⟨a, vs, rfl, by rw [hK]; exact R.sub.sqT hs, by rw [rr.length, l], ads, G, env, ts, env', R, rr, e, k⟩
      · rw [if_neg l] at e; cases e
    | _ => cases e
/-- target = value -/
@[simp] def sAsg (ea : EvE) (g : Tg) : EvS := fun env => (ea env).so fun x e => match x with
  | .tr t => (match g t e with
    | some e' => .nx e'
    | none => .bad)
  | .sl _ => .bad
theorem asg_imp {D : Ends} {σ : L2.St} {H : Hp} (h : TSof c r W (sAsg ea g) D σ H) : tAsg (TEof c r W ea) (TGof c r us g) D σ H := by
  obtain ⟨ads, G, env, R, h⟩ := h
  refine ⟨ads, G, env, R, Sat_mono (RE.so_Sat.mp h) (fun x e1 h1 ads1 G1 H1 v1 R1 s1 p1 => ?_) fun x e z => XC.of z⟩
  cases x with
  | sl i => exact h1.elim
  | tr t =>
    cases q : g t e1 with
    | none => simp only [q] at h1; exact h1.elim
    | some e2 =>
      simp only [q] at h1
      exact ⟨ads1, G1, e1, t, e2, R1, p1, q, fun ads' σ' R' _ _ _ _ => h1 ads' G1 H1 σ' R' s1.sub⟩
theorem ts_asg (he : PE X e (TEof c r W ea)) (hg : PG X tg (TGof c r us g)) (hs : swapsWithSole [tg] e pos.line X.env = pure false := by rfl) (hw : swappedStores [tg] e X.env = pure none := by rfl)
    (h1 : (assignEach [tg] X.env).map (·.2) = [assign tg X.env] := by rfl) : PS X (.Assign [tg] e pos) (TSof c r W (sAsg ea g)) := PS.imp (ps_asg he hg hs hw h1) fun D σ H h => asg_imp h
/-- x = a new list, dict of our own -/
@[simp] def sOwn (i : Nat) (ef : EvF) : EvS := fun env => (ef env).so fun o e => if i < e.length then .nx (e.set i (some (.ow o))) else .bad
theorem own_imp {ef : EvF} {i : Nat} (hp : (r.pins.map Prod.fst).contains i = false) {D : Ends} {σ : L2.St} {H : Hp} (h : TSof c r W (sOwn i ef) D σ H) : tAsg (TFof c r W ef) (gName i) D σ H := by
  obtain ⟨ads, G, env, R, h⟩ := h
  refine ⟨ads, G, env, R, Sat_mono (RE.so_Sat.mp h) (fun o e1 h1 ads1 G1 H1 p1 ad R1 s1 ow nw => ?_) fun x e z => XC.of z⟩
  by_cases l : i < e1.length
  · rw [if_pos l] at h1
    exact h1 _ G1 H1 _ (R1.setOwn ow (fun a ha => (nw a ha).1) hp l) s1.sub
  · rw [if_neg l] at h1; exact h1.elim
theorem ts_own {ef : EvF} {i : Nat} {x : Str} {pos' : Pos} (hN : X.N.Nodup) (hi : X.N[i]? = some x) (hx : Loc X.env.scope x) (hp : (r.pins.map Prod.fst).contains i = false) (he : PE X e (TFof c r W ef)) (hs : swapsWith e (some (.Name x pos')) pos.line X.env = pure false := by rfl)
    (hf : X.fn x = true ∨ X.env.scope.names.lookup x = some .local := by first | exact .inl rfl | exact .inr rfl | assumption) : PS X (.Assign [.Name x pos'] e pos) (TSof c r W (sOwn i ef)) :=
  PS.imp (ps_set hN hi hx he hs hf) fun D σ H h => own_imp hp h
/-- x = e, x a name -/
theorem ts_set {i : Nat} {x : Str} {pos' : Pos} (hN : X.N.Nodup) (hi : X.N[i]? = some x) (hx : Loc X.env.scope x) (hp : (r.pins.map Prod.fst).contains i = false) (he : PE X e (TEof c r W ea)) (hs : swapsWith e (some (.Name x pos')) pos.line X.env = pure false := by rfl)
    (hf : X.fn x = true ∨ X.env.scope.names.lookup x = some .local := by first | exact .inl rfl | exact .inr rfl | assumption) : PS X (.Assign [.Name x pos'] e pos) (TSof c r W (sAsg ea (gNm i))) :=
  PS.imp (ps_set hN hi hx he hs hf) fun D σ H ⟨ads, G, env, R, h⟩ => by
    refine ⟨ads, G, env, R, Sat_mono (RE.so_Sat.mp h) (fun x e1 h1 ads1 G1 H1 v1 R1 s1 p1 => ?_) fun x e z => XC.of z⟩
    cases x with
    | sl i => exact h1.elim
    | tr t => exact h1 _ G1 H1 _ (R1.set p1 hp) s1.sub
end

/-! ### while: at most n turns -/
def sLoop (et : EvT) (body : EvS) : Nat → EvS
  | 0, _ => .bad
  | n + 1, env => (et env).so fun b e => if b then (match body e with
      | .nx e' => sLoop et body n e'
      | .ct e' => sLoop et body n e'
      | .bk e' => .nx e'
      | o => o) else .nx e
theorem ts_while {X : Cx} {c : TC} {r : Ref} {W : WX} {t : Expr} {et : EvT} {body : List Stmt} {xs : EvS} {pos : Pos} (n : Nat) (hp : PassesOwn (model X.prog X.w) X.A X.env X.xe) (ht : PT X t (TTof c r W et)) (hb : PSs X body (TSof c r W xs)) :
    PS X (.While t body [] pos) (TSof c r W (sLoop et xs n)) := PS.imp (ps_while hp ht hb) fun D σ H ⟨ads, G, env, R, h⟩ => by
  refine ⟨fun m σ' H' => ∃ ads' G' env', RS c r ads' G' H' σ' env' ∧ Sub G G' ∧ (sLoop et xs m env').Sat (Kof c r W G' D), ⟨n, ads, G, env, R, Sub.refl _, h⟩, ?_⟩
  rintro m σ1 H1 ⟨ads1, G1, env1, R1, s1, h1⟩
  cases m with
  | zero => exact h1.elim
  | succ m =>
    refine ⟨ads1, G1, env1, R1, Sat_mono (RE.so_Sat.mp h1) (fun b e2 h2 ads2 G2 H2 R2 s2 => ?_) fun x e z => XC.of z⟩
    cases b with
    | false => exact iteF (h2 ads2 G2 H2 σ1 R2 s2.sub)
    | true =>
      refine iteT ⟨fun σ' H' => ∃ ads' G' env', RS c r ads' G' H' σ' env' ∧ Sub G G' ∧ (sLoop et xs m env').Sat (Kof c r W G' D), fun σ' H' w => ⟨m, Nat.lt_succ_self m, w⟩, ads2, G2, e2, R2, ?_⟩
      have h3 := Kof.weak s2.sub h2
      have h3' : (match xs e2 with
        | .nx e' => sLoop et xs m e'
        | .ct e' => sLoop et xs m e'
        | .bk e' => .nx e'
        | o => o).Sat (Kof c r W G2 D) := h3
      cases q : xs e2 with
      | nx e' => rw [q] at h3'; exact fun ads3 G3 H3 σ3 R3 s3 => ⟨ads3, G3, e', R3, (s1.trans s2.sub).trans s3, Kof.weak s3 h3'⟩
      | ct e' => rw [q] at h3'; exact fun ads3 G3 H3 σ3 R3 s3 => ⟨ads3, G3, e', R3, (s1.trans s2.sub).trans s3, Kof.weak s3 h3'⟩
      | bk e' => rw [q] at h3'; exact fun ads3 G3 H3 σ3 R3 s3 => h3' ads3 G3 H3 σ3 R3 s3
      | rt t e' => rw [q] at h3'; exact h3'
      | exc x e' => rw [q] at h3'; exact h3'
      | bad => rw [q] at h3'; exact h3'.elim
end TreeL
end
section
/-! TL5: what is walked (TIof), for loops, list comprehensions. -/
namespace TreeL
open PySem PySem.Spec PyProof.Rows L2

/-- what is walked is still there -/
def alive (x : Vl) (ts : List PV) (env : En) : Bool := match x with
  | .tr _ => true
  | .sl j => match env[j]? with
    | some (some (.ow (.lst xs))) => PV.beqL xs ts
    | _ => false
@[simp] theorem alive_tr (t : PV) (ts : List PV) (env : En) : alive (.tr t) ts env = true := rfl
/-- an iterator over things that stand for ts, whatever else comes about -/
def ItOk (c : TC) (r : Ref) (G0 : Hp) (x : Vl) (ts : List PV) (J : It) : Prop := ∀ i ads G H σ env, RS c r ads G H σ env → Sub G0 G → alive x ts env = true →
  (∀ t, ts[i]? = some t → J.go i H ∧ ∀ x H', J.yld i H x H' → ∃ G', Step [] H G H' G' ∧ Rep c G' t x) ∧ (ts.length ≤ i → J.stop i H)
/-- what is walked: the things, and where they lie (a tree, or a slot that must stay) -/
structure Wk where
  ts : List PV
  at_ : Vl
abbrev EvI := En → RE Wk
def TIof (c : TC) (r : Ref) (W : WX) (ev : EvI) : TI := fun σ H R => ∃ ads G env, RS c r ads G H σ env ∧
  (ev env).Sat (fun (w : Wk) env' => ∀ ads' G' H' J, RS c r ads' G' H' σ env' → Nxt ads G H ads' G' H' → ItOk c r G' w.at_ w.ts J → R J H') (XC c r W G σ)
theorem itok_list {c : TC} {r : Ref} {K : PySem.W.Frag} {G : Hp} {a : Addr} {x : Vl} {ts : List PV} {vs : List V} (h : G a = some (.lst vs)) (rr : RepL c G ts vs) : ItOk c r G x ts (Itl K a) := fun i ads G' H σ env R s1 _ => by
  have h' : SqL K H a vs := .inl (.inl (R.sub _ _ (s1 _ _ h)))
  refine ⟨fun t ht => ?_, fun hl => ⟨vs, h', by rw [rr.length]; exact hl⟩⟩
  obtain ⟨u, hu, ru⟩ := rr.get ht
  refine ⟨⟨vs, u, h', hu⟩, fun x H' ⟨e, y⟩ => ?_⟩
  subst e
  have z := y vs h'
  rw [hu] at z; cases z
  exact ⟨G', Step.refl R.sub, ru.mono s1⟩
theorem itok_tup {c : TC} {r : Ref} {K : PySem.W.Frag} {G : Hp} {a : Addr} {x : Vl} {ts : List PV} {vs : List V} (h : SqT K G a vs) (rr : RepL c G ts vs) : ItOk c r G x ts (Itt K a) := fun i ads G' H σ env R s1 _ => by
  have h' := R.sub.sqT (s1.sqT h)
  refine ⟨fun t ht => ?_, fun hl => ⟨vs, h', by rw [rr.length]; exact hl⟩⟩
  obtain ⟨u, hu, ru⟩ := rr.get ht
  refine ⟨⟨vs, u, h', hu⟩, fun x H' ⟨e, y⟩ => ?_⟩
  subst e
  have z := y vs h'
  rw [hu] at z; cases z
  exact ⟨G', Step.refl R.sub, ru.mono s1⟩
/-- the list of a slot that must stay -/
theorem itok_slot {c : TC} {r : Ref} {K : PySem.W.Frag} {G : Hp} {q : Nat × V × List Addr} {a : Addr} {ts : List PV} (hq : q ∈ r.pins) (ha : q.2.1 = .ref a) : ItOk c r G (.sl q.1) ts (Itl K a) := fun i ads G' H σ env R s1 al => by
  have sl := R.slot q.1
  rw [(R.pin q hq).1] at sl
  simp only [alive] at al
  cases z : env[q.1]? with
  | none => rw [z] at al; cases al
  | some o =>
    rw [z] at al sl
    cases o with
    | none => cases al
    | some a =>
      cases a with
      | t _ => cases al
      | ow o =>
        cases o with
        | lst xs =>
          have e := PV.beqL_eq (show PV.beqL xs ts = true from al)
          subst e
          obtain ⟨p, e1, _, vs, h, rr⟩ := sl
          rw [ha] at e1
          cases e1
          have h' : SqL K H a vs := .inl (.inl h)
          refine ⟨fun t ht => ?_, fun hl => ⟨vs, h', by rw [rr.length]; exact hl⟩⟩
          obtain ⟨u, hu, ru⟩ := rr.get ht
          refine ⟨⟨vs, u, h', hu⟩, fun x H' ⟨e, y⟩ => ?_⟩
          subst e
          have z := y vs h'
          rw [hu] at z; cases z
          exact ⟨G', Step.refl R.sub, ru⟩
        | _ => cases al
theorem itok_range {c : TC} {r : Ref} {G : Hp} {x : Vl} {lo : Int} {n : Nat} : ItOk c r G x ((List.range n).map fun (k : Nat) => PV.int (lo + (k : Int))) (Itr lo n) := fun i ads G' H σ env R s1 _ => by
  refine ⟨fun t ht => ?_, fun hl => ?_⟩
  · rw [List.getElem?_map] at ht
    by_cases lt : i < n
    · rw [List.getElem?_range lt] at ht
      cases ht
      refine ⟨lt, fun x H' ⟨e, y⟩ => ?_⟩
      subst e; subst y
      exact ⟨G', Step.refl R.sub, by simp [Rep]⟩
    · rw [List.getElem?_eq_none (by simpa using lt)] at ht; cases ht
  · have hl' : n ≤ i := by simpa using hl
    exact hl'
section
variable {X : Cx} {c : TC} {r : Ref} {W : WX} {tg e a b : Expr} {ea eb : EvE} {pos p : Pos}
theorem PI.imp {t t' : TI} (h : PI X tg e t) (i : ∀ σ H R, t' σ H R → t σ H R) : PI X tg e t' := ⟨fun pins s σ H R I q => h.run pins s σ H R I (i σ H R q)⟩
theorem PI.or {t t' : TI} (h : PI X tg e t) (h' : PI X tg e t') : PI X tg e (fun σ H R => t σ H R ∨ t' σ H R) := ⟨fun pins s σ H R I q => by
  rcases q with q | q
  · exact h.run pins s σ H R I q
  · exact h'.run pins s σ H R I q⟩
/-- pn: the slots that must stay -/
@[simp] def iSeq (pn : List Nat) (ea : EvE) : EvI := fun env => (ea env).bind fun x e => match x with
  | .tr (.lst ts) => .ok ⟨ts, .tr .non⟩ e
  | .tr (.tup ts) => .ok ⟨ts, .tr .non⟩ e
  | .sl j => if pn.contains j then (match e[j]? with
    | some (some (.ow (.lst ts))) => .ok ⟨ts, .sl j⟩ e
    | _ => .bad) else .bad
  | _ => .bad
theorem ti_seq {pn : List Nat} (hp : r.pins.map Prod.fst = pn) (hK : X.K = c.K) (ha : PE X e (TEof c r W ea)) : PI X tg e (TIof c r W (iSeq pn ea)) := PI.imp (PI.or (pi_list ha) (pi_tup ha)) fun σ H R ⟨ads, G, env, R0, h⟩ => by
  have h' := Sat_bind.mp h
  cases q : ea env with
  | bad => rw [q] at h'; exact h'.elim
  | exc x e1 =>
    rw [q] at h'
    exact .inl ⟨ads, G, env, R0, by rw [q]; exact h'⟩
  | ok x e1 =>
    rw [q] at h'
    cases x with
    | sl i =>
      refine .inl ⟨ads, G, env, R0, ?_⟩
      rw [q]
      intro ads1 G1 H1 v1 R1 s1 p1
      have h2 : (if pn.contains i then (match e1[i]? with
        | some (some (.ow (.lst ts))) => RE.ok (Wk.mk ts (.sl i)) e1
        | _ => .bad) else .bad).Sat (fun (w : Wk) env' => ∀ ads' G' H' J, RS c r ads' G' H' σ env' → Nxt ads G H ads' G' H' → ItOk c r G' w.at_ w.ts J → R J H') (XC c r W G σ) := h'
      by_cases m : pn.contains i = true
      · rw [if_pos m] at h2
        have m' := List.contains_iff_mem.mp m
        rw [← hp] at m'
        obtain ⟨pq, hq, rfl⟩ := List.mem_map.mp m'
        have p2 : σ[pq.1]? = some (some v1) := p1
        rw [(R1.pin pq hq).1] at p2
        cases p2
        have sl := R1.slot pq.1
        rw [(R1.pin pq hq).1] at sl
        cases z : e1[pq.1]? with
        | none => rw [z] at h2; exact h2.elim
        | some o =>
          rw [z] at h2 sl
          cases o with
          | none => exact h2.elim
          | some a =>
            cases a with
            | t _ => exact h2.elim
            | ow o =>
              cases o with
              | lst ts =>
                obtain ⟨p, e1, _, vs, hh, rr⟩ := sl
                exact ⟨p, e1, ⟨vs, .inl (.inl hh)⟩, h2 ads1 G1 H1 _ R1 s1 (itok_slot hq e1)⟩
              | _ => exact h2.elim
      · rw [if_neg m] at h2; exact h2.elim
    | tr t =>
      cases t with
      | lst ts =>
        refine .inl ⟨ads, G, env, R0, ?_⟩
        rw [q]
        intro ads1 G1 H1 v1 R1 s1 p1
        simp only [VRep, Rep] at p1
        obtain ⟨a, vs, rfl, hx, rr⟩ := p1
        exact ⟨a, rfl, ⟨vs, .inl (.inl (R1.sub _ _ hx))⟩, h' ads1 G1 H1 _ R1 s1 (itok_list hx rr)⟩
      | tup ts =>
        refine .inr ⟨ads, G, env, R0, ?_⟩
        rw [q]
        intro ads1 G1 H1 v1 R1 s1 p1
        simp only [VRep, Rep] at p1
        obtain ⟨a, vs, rfl, hx, rr⟩ := p1
        exact ⟨a, rfl, ⟨vs, by rw [hK]; exact R1.sub.sqT hx⟩, h' ads1 G1 H1 _ R1 s1 (itok_tup (by rw [hK]; exact hx) rr)⟩
      | _ => exact h'.elim
end

/-! ### for -/
def loopF (g : Tg) (body : EvS) (al : En → Bool) : List PV → EvS
  | [], env => if al env then .nx env else .bad
  | t :: ts, env => if al env then (match g t env with
    | none => .bad
    | some e1 => match body e1 with
      | .nx e2 => loopF g body al ts e2
      | .ct e2 => loopF g body al ts e2
      | .bk e2 => .nx e2
      | o => o) else .bad
def sFor (ev : EvI) (g : Tg) (body : EvS) : EvS := fun env => (ev env).so fun (w : Wk) e => loopF g body (alive w.at_ w.ts) w.ts e
theorem ts_for {X : Cx} {c : TC} {r : Ref} {W : WX} {tg iter : Expr} {body : List Stmt} {ev : EvI} {us : List Nat} {g : Tg} {xs : EvS} {pos : Pos} (hp : PassesOwn (model X.prog X.w) X.A X.env X.xe) (hc : X.calm = true) (hi : PI X tg iter (TIof c r W ev)) (hg : PG X tg (TGof c r us g)) (hb : PSs X body (TSof c r W xs))
    (hs : ∀ x, foldedSetIterable iter X.env x = pure x := by intro _; rfl) : PS X (.For tg iter body [] pos) (TSof c r W (sFor ev g xs)) := PS.imp (ps_for hp hc hi hg hb hs) fun D σ H ⟨ads, G, env, R, h⟩ => by
  refine ⟨ads, G, env, R, Sat_mono (RE.so_Sat.mp h) (fun w e1 h1 ads1 G1 H1 J R1 s1 it => ?_) fun x e z => XC.of z⟩
  obtain ⟨ts, at_⟩ := w
  refine ⟨fun i m σ' H' => m = ts.length - i ∧ ∃ ads' G' env', RS c r ads' G' H' σ' env' ∧ Sub G1 G' ∧ (loopF g xs (alive at_ ts) (ts.drop i) env').Sat (Kof c r W G' D), ⟨_, rfl, ads1, G1, e1, R1, Sub.refl _, Kof.weak s1.sub h1⟩, ?_⟩
  rintro i m σ2 H2 ⟨rfl, ads2, G2, env2, R2, s2, h2⟩
  by_cases al : alive at_ ts env2 = true
  rotate_left
  · cases q : ts.drop i with
    | nil => rw [q, loopF, if_neg al] at h2; exact h2.elim
    | cons t us => rw [q, loopF, if_neg al] at h2; exact h2.elim
  obtain ⟨go, stop⟩ := it i ads2 G2 H2 σ2 env2 R2 s2 al
  cases q : ts[i]? with
  | none =>
    have hl : ts.length ≤ i := List.getElem?_eq_none_iff.mp q
    rw [List.drop_eq_nil_of_le hl, loopF, if_pos al] at h2
    exact .inl ⟨stop hl, h2 ads2 G2 H2 σ2 R2 (Sub.refl _)⟩
  | some t =>
    obtain ⟨g1, g2⟩ := go t q
    have hlt : i < ts.length := (List.getElem?_eq_some_iff.mp q).1
    have hd : ts.drop i = t :: ts.drop (i + 1) := by
      rw [List.drop_eq_getElem_cons hlt, (List.getElem?_eq_some_iff.mp q).2]
    rw [hd, loopF, if_pos al] at h2
    refine .inr ⟨g1, fun σ' H' => ∃ ads' G' env', RS c r ads' G' H' σ' env' ∧ Sub G1 G' ∧ (loopF g xs (alive at_ ts) (ts.drop (i + 1)) env').Sat (Kof c r W G' D), fun σ' H' w => ⟨_, by omega, rfl, w⟩, fun x H' y => ?_⟩
    obtain ⟨G3, st, rx⟩ := g2 x H' y
    have R3 := R2.next st
    cases qg : g t env2 with
    | none => rw [qg] at h2; exact h2.elim
    | some e3 =>
      rw [qg] at h2
      refine ⟨ads2, G3, env2, t, e3, R3, rx, qg, fun ads4 σ4 R4 _ _ _ _ => ⟨ads4, G3, e3, R4, ?_⟩⟩
      have h3 := Kof.weak st.sub h2
      have h3' : (match xs e3 with
        | .nx e2 => loopF g xs (alive at_ ts) (ts.drop (i + 1)) e2
        | .ct e2 => loopF g xs (alive at_ ts) (ts.drop (i + 1)) e2
        | .bk e2 => .nx e2
        | o => o).Sat (Kof c r W G3 D) := h3
      cases qx : xs e3 with
      | nx e' => rw [qx] at h3'; exact fun ads5 G5 H5 σ5 R5 s5 => ⟨ads5, G5, e', R5, (s2.trans st.sub).trans s5, Kof.weak s5 h3'⟩
      | ct e' => rw [qx] at h3'; exact fun ads5 G5 H5 σ5 R5 s5 => ⟨ads5, G5, e', R5, (s2.trans st.sub).trans s5, Kof.weak s5 h3'⟩
      | bk e' => rw [qx] at h3'; exact fun ads5 G5 H5 σ5 R5 s5 => h3' ads5 G5 H5 σ5 R5 s5
      | rt t e' => rw [qx] at h3'; exact h3'
      | exc x e' => rw [qx] at h3'; exact h3'
      | bad => rw [qx] at h3'; exact h3'.elim

/-! ### comprehensions -/
@[simp] def wipeE (env : En) : List Nat → En
  | [] => env
  | v :: vs => (wipeE env vs).set v none
/-- the slots vs as they were in e0 -/
@[simp] def unW (e0 env : En) : List Nat → En
  | [] => env
  | v :: vs => (unW e0 env vs).set v (e0[v]?.join)
@[simp] def noOwn (env : En) (vs : List Nat) : Bool := vs.all fun j => match env[j]? with
  | some (some (.ow _)) => false
  | _ => true
theorem wipeE_length (env : En) : ∀ vs, (wipeE env vs).length = env.length
  | [] => rfl
  | v :: vs => by unfold wipeE; rw [List.length_set, wipeE_length env vs]
theorem unW_length (e0 env : En) : ∀ vs, (unW e0 env vs).length = env.length
  | [] => rfl
  | v :: vs => by unfold unW; rw [List.length_set, unW_length e0 env vs]
theorem unW_out {e0 env : En} {j : Nat} : ∀ {vs : List Nat}, j ∉ vs → (unW e0 env vs)[j]? = env[j]?
  | [], _ => rfl
  | v :: vs, h => by
    unfold unW
    rw [List.getElem?_set_ne fun e => h (by rw [e]; exact List.mem_cons_self)]
    exact unW_out fun m => h (List.mem_cons_of_mem _ m)
theorem unW_in {e0 env : En} {j : Nat} (hl : env.length = e0.length) : ∀ {vs : List Nat}, j ∈ vs → (unW e0 env vs)[j]?.join = e0[j]?.join
  | v :: vs, h => by
    unfold unW
    by_cases e : v = j
    · subst e
      by_cases lt : v < (unW e0 env vs).length
      · rw [join_set_self lt]
      · rw [set_out lt, List.getElem?_eq_none (Nat.le_of_not_lt lt)]
        rw [unW_length, hl] at lt
        rw [List.getElem?_eq_none (Nat.le_of_not_lt lt)]
    · rw [join_set_ne e]
      rcases List.mem_cons.mp h with z | z
      · exact absurd z.symm e
      · exact unW_in hl z
theorem wipe_same {σ σ2 : L2.St} {vs : List Nat} (h : ∀ j, j ∉ vs → σ2[j]? = (wipe σ vs)[j]?) (hl : σ2.length = σ.length) : wipe σ2 vs = wipe σ vs := by
  have none_in : ∀ (τ : L2.St) (us : List Nat) (j : Nat), j ∈ us → j < τ.length → (wipe τ us)[j]? = some none := by
    intro τ us
    induction us with
    | nil => intro j hj _; cases hj
    | cons v us ih =>
      intro j hj lt
      unfold wipe
      by_cases e : v = j
      · subst e
        rw [List.getElem?_set_self (by rw [wipe_length]; exact lt)]
      · rw [List.getElem?_set_ne e]
        rcases List.mem_cons.mp hj with z | z
        · exact absurd z.symm e
        · exact ih j z lt
  apply List.ext_getElem?
  intro j
  by_cases m : j ∈ vs
  · by_cases lt : j < σ.length
    · rw [none_in σ2 vs j m (by rw [hl]; exact lt), none_in σ vs j m lt]
    · rw [List.getElem?_eq_none (by rw [wipe_length, hl]; omega), List.getElem?_eq_none (by rw [wipe_length]; omega)]
  · rw [wipe_out m, h j m]
section
variable {c : TC} {r : Ref} {ads ads1 : Nat → List Addr} {G H G1 H1 : Hp} {σ : L2.St} {env env1 : En} {vs : List Nat}
def cutA (ads : Nat → List Addr) (vs : List Nat) : Nat → List Addr := fun j => if j ∈ vs then [] else ads j
theorem RS.wipes (R : RS c r ads G H σ env) (hp : ∀ j ∈ vs, (r.pins.map Prod.fst).contains j = false) : RS c r (cutA ads vs) G H (L2.wipe σ vs) (wipeE env vs) := by
  induction vs with
  | nil =>
    have e : cutA ads [] = ads := by funext j; simp [cutA]
    rw [e]; exact R
  | cons v vs ih =>
    have R' := (ih fun j hj => hp j (List.mem_cons_of_mem _ hj)).wipe (hp v List.mem_cons_self)
    have e : (fun j => if j = v then [] else cutA ads vs j) = cutA ads (v :: vs) := by
      funext j
      unfold cutA
      by_cases q : j = v
      · subst q; simp
      · by_cases m : j ∈ vs <;> simp [q, m]
    rw [e] at R'
    exact R'
/-- behind a comprehension's block -/
theorem RS.back (R0 : RS c r ads G H σ env) (no : noOwn env vs = true) (R : RS c r ads1 G1 H1 (L2.wipe σ vs) env1) (s : Nxt ads G H ads1 G1 H1) (hp : ∀ j ∈ vs, (r.pins.map Prod.fst).contains j = false) :
    RS c r (cutA ads1 vs) G1 H1 σ (unW env env1 vs) where
  step := R.step
  len := by rw [unW_length, R.len, wipe_length]
  slot := fun j => by
    have hl : env1.length = env.length := by rw [R.len, wipe_length, R0.len]
    unfold cutA
    by_cases m : j ∈ vs
    · rw [if_pos m, unW_in hl m]
      have s0 := R0.slot j
      have n := List.all_eq_true.mp no j m
      cases q : env[j]? with
      | none => rfl
      | some o =>
        rw [q] at s0 n
        cases o with
        | none => rfl
        | some a =>
          cases a with
          | ow o => cases n
          | t t =>
            cases z : σ[j]?.join with
            | none => rw [z] at s0; exact (show False from s0).elim
            | some v =>
              rw [z] at s0
              exact ⟨rfl, s0.2.mono s.sub⟩
    · rw [if_neg m, unW_out m]
      have s1 := R.slot j
      rw [wipe_out m] at s1
      exact s1
  own := fun j a ha => by
    unfold cutA at ha
    by_cases m : j ∈ vs
    · rw [if_pos m] at ha; cases ha
    · rw [if_neg m] at ha; exact R.own j a ha
  disj := fun j k a ha hb => by
    unfold cutA at ha hb
    by_cases m : j ∈ vs
    · rw [if_pos m] at ha; cases ha
    · by_cases m' : k ∈ vs
      · rw [if_pos m'] at hb; cases hb
      · rw [if_neg m] at ha; rw [if_neg m'] at hb; exact R.disj j k a ha hb
  pin := fun q hq => by
    have nv : q.1 ∉ vs := fun m => by
      have z := hp _ m
      rw [List.contains_iff_mem.mpr (List.mem_map_of_mem hq)] at z; cases z
    have p := R.pin q hq
    rw [wipe_out nv] at p
    unfold cutA
    rw [if_neg nv]
    exact p
end
def compL (g : Tg) (et : EvT) (ea : EvE) (vs : List Nat) (al : En → Bool) : List PV → List PV → En → RE (List PV)
  | [], acc, env => if al env then .ok acc env else .bad
  | t :: ts, acc, env => if al env then (match g t env with
    | none => .bad
    | some e1 => match et e1 with
      | .ok b e2 => if b then (match ea e2 with
          | .ok (.tr x) e3 => if acc.length < LIM then compL g et ea vs al ts (acc ++ [x]) (wipeE e3 vs) else .bad
          | _ => .bad) else compL g et ea vs al ts acc (wipeE e2 vs)
      | _ => .bad) else .bad
@[simp] def fComp (ev : EvI) (g : Tg) (et : EvT) (ea : EvE) (vs : List Nat) : EvF := fun env => (ev env).bind fun (w : Wk) e0 =>
  if noOwn e0 vs then (match compL g et ea vs (alive w.at_ w.ts) w.ts [] (wipeE e0 vs) with
    | .ok acc e1 => .ok (.lst acc) (unW e0 e1 vs)
    | _ => .bad) else .bad
@[simp] def tYesT : EvT := fun env => .ok true env
abbrev W0 : WX := fun _ _ _ _ => False
section
variable {X : Cx} {c : TC} {r : Ref} {W : WX}
theorem PTs.imp {ifs : List Expr} {t t' : TT} (h : PTs X ifs t) (i : ∀ σ H Q, t' σ H Q → t σ H Q) : PTs X ifs t' := ⟨fun pins s σ H Q I q => h.run pins s σ H Q I (i σ H Q q)⟩
theorem tts_nil : PTs X [] (TTof c r W tYesT) := PTs.imp pts_nil fun σ H Q ⟨ads, G, env, R, h⟩ => h ads G H R (Nxt.refl _ _ _)
theorem tts_one {a : Expr} {et : EvT} (h : PT X a (TTof c r W et)) : PTs X [a] (TTof c r W et) := pts_one h
/-- a thing of ours that no slot owns is written -/
theorem RS.scratch {ads : Nat → List Addr} {G H : Hp} {σ : L2.St} {env : En} (R : RS c r ads G H σ env) {D : Addr} {ho ho' : HO} (n : New r ads G D) (hD : H D = some ho) : RS c r ads G (upd H D ho') σ env where
  step := R.step.trans (Step.write R.sub n.1 hD) fun x hx => by
    rw [List.mem_singleton.mp hx]
    exact .inr n.2.1
  len := R.len
  slot := fun j => (R.slot j).stay (Sub.refl _) fun b hb u e => by
    have ne : b ≠ D := fun q => n.2.2 j (by rw [← q]; exact hb)
    rw [upd_ne ne]; exact e
  own := R.own
  disj := R.disj
  pin := R.pin
/-- a comprehension's list at D, beside all else -/
structure Hx (D : Addr) (ads : Nat → List Addr) (G H : Hp) (ads1 : Nat → List Addr) (G1 H1 : Hp) : Prop where
  sub : Sub G G1
  hold : ∀ a o, a ≠ D → H a = some o → (∀ j, a ∉ ads j) → H1 a = some o ∧ (∀ j, a ∉ ads1 j) ∧ (G a = none → G1 a = none)
  there : ∀ a, a ≠ D → H1 a = none → H a = none
theorem Hx.step {D : Addr} {ads ads1 ads2 : Nat → List Addr} {G H G1 H1 G2 H2 : Hp} (a : Hx D ads G H ads1 G1 H1) (b : Nxt ads1 G1 H1 ads2 G2 H2) : Hx D ads G H ads2 G2 H2 :=
  ⟨a.sub.trans b.sub, fun x o n e m => let z := a.hold x o n e m; let y := b.hold x o z.1 z.2.1; ⟨y.1, y.2.1, fun q => y.2.2 (z.2.2 q)⟩, fun x n e => a.there x n (b.there x e)⟩
theorem Hx.put {D : Addr} {ads ads1 : Nat → List Addr} {G H G1 H1 : Hp} {ho : HO} (a : Hx D ads G H ads1 G1 H1) : Hx D ads G H ads1 G1 (upd H1 D ho) :=
  ⟨a.sub, fun x o n e m => by rw [upd_ne n]; exact a.hold x o n e m, fun x n e => by rw [upd_ne n] at e; exact a.there x n e⟩
theorem Hx.less {D : Addr} {ads ads1 ads2 : Nat → List Addr} {G H G1 H1 : Hp} (s : Hx D ads G H ads2 G1 H1) (h : ∀ j a, a ∈ ads1 j → a ∈ ads2 j) : Hx D ads G H ads1 G1 H1 :=
  ⟨s.sub, fun a o n e m => let z := s.hold a o n e m; ⟨z.1, fun j q => z.2.1 j (h j a q), z.2.2⟩, s.there⟩
theorem Hx.nxt {D : Addr} {ads ads1 : Nat → List Addr} {G H G1 H1 : Hp} (s : Hx D ads G H ads1 G1 H1) (hD : H D = none) : Nxt ads G H ads1 G1 H1 :=
  ⟨s.sub, fun a o e n => s.hold a o (fun z => by rw [z, hD] at e; cases e) e n, fun a e => by
    by_cases z : a = D
    · rw [z]; exact hD
    · exact s.there a z e⟩
theorem cutA_sub {ads : Nat → List Addr} {vs : List Nat} : ∀ j a, a ∈ cutA ads vs j → a ∈ ads j := fun j a m => by
  unfold cutA at m
  by_cases q : j ∈ vs
  · rw [if_pos q] at m; cases m
  · rw [if_neg q] at m; exact m
def compEnd (e0 : En) (vs : List Nat) (x : RE (List PV)) : RE OS := match x with
  | .ok acc e1 => .ok (.lst acc) (unW e0 e1 vs)
  | _ => .bad
/-- the reading of a comprehension -/
theorem lc_imp {ev : EvI} {us vs : List Nat} {g : Tg} {et : EvT} {ea : EvE} (hp : ∀ j ∈ vs, (r.pins.map Prod.fst).contains j = false) (hu : ∀ j ∈ us, j ∈ vs) {σ : L2.St} {H : Hp} {Q : VK} (h : TFof c r W (fComp ev g et ea vs) σ H Q) :
    tLc (TIof c r W ev) (TGof c r us g) (TTof c r W0 et) (TEof c r W0 ea) vs σ H Q := by
  obtain ⟨ads, G, env, R, h⟩ := h
  refine ⟨ads, G, env, R, Sat_mono (Sat_bind.mp h) (fun w e0 h1 ads1 G1 H1 J R1 s1 it D hD => ?_) fun _ _ z => z⟩
  obtain ⟨ts, at_⟩ := w
  by_cases no : noOwn e0 vs = true
  rotate_left
  · rw [if_neg no] at h1; exact h1.elim
  rw [if_pos no] at h1
  have h1 : (compEnd e0 vs (compL g et ea vs (alive at_ ts) ts [] (wipeE e0 vs))).Sat _ _ := h1
  have Ri := (R1.lay (ho := .lst []) hD).wipes hp
  have nw := New.of R1 hD
  have hx0 : Hx D ads1 G1 H1 (cutA ads1 vs) G1 (upd H1 D (.lst [])) :=
    (Hx.put ⟨Sub.refl _, fun a o n e m => ⟨e, m, id⟩, fun a n e => e⟩).less cutA_sub
  refine ⟨fun i m H' => m = ts.length - i ∧ ∃ ads' G' env' acc va, RS c r ads' G' H' (wipe σ vs) env' ∧ Hx D ads1 G1 H1 ads' G' H' ∧ H' D = some (.lst va) ∧ RepL c G' acc va ∧ New r ads' G' D ∧
    (compEnd e0 vs (compL g et ea vs (alive at_ ts) (ts.drop i) acc env')).Sat (fun o env' => ∀ ads' G' H' p ad, RS c r ads' G' H' σ env' → Nxt ads G H ads' G' H' → OwRep c G' H' p ad o → (∀ a ∈ ad, New r ads' G' a ∧ H a = none) → Q (.ref p) H') (XC c r W G σ),
    ⟨_, rfl, cutA ads1 vs, G1, _, [], [], Ri, hx0, upd_same, RepL.nil, ⟨nw.1, nw.2.1, fun j m => nw.2.2 j (cutA_sub j D m)⟩, h1⟩, ?_⟩
  rintro i m H2 ⟨rfl, ads2, G2, env2, acc, va, R2, s2, hDa, ra, nw2, h2⟩
  by_cases al : alive at_ ts env2 = true
  rotate_left
  · cases q : ts.drop i with
    | nil => rw [q, compL, if_neg al] at h2; exact h2.elim
    | cons t us => rw [q, compL, if_neg al] at h2; exact h2.elim
  obtain ⟨go, stop⟩ := it i ads2 G2 H2 _ env2 R2 s2.sub al
  cases q : ts[i]? with
  | none =>
    have hl : ts.length ≤ i := List.getElem?_eq_none_iff.mp q
    rw [List.drop_eq_nil_of_le hl, compL, if_pos al] at h2
    have sB := s2.nxt hD
    have RB := R1.back no R2 sB hp
    exact .inl ⟨stop hl, h2 (cutA ads2 vs) G2 H2 D [D] RB (s1.trans (sB.less cutA_sub)) ⟨rfl, va, hDa, ra⟩ fun a ha => by rw [List.mem_singleton.mp ha]; exact ⟨⟨nw2.1, nw2.2.1, fun j m => nw2.2.2 j (cutA_sub j D m)⟩, s1.there D hD⟩⟩
  | some t =>
    obtain ⟨g1, g2⟩ := go t q
    have hlt : i < ts.length := (List.getElem?_eq_some_iff.mp q).1
    have hd : ts.drop i = t :: ts.drop (i + 1) := by
      rw [List.drop_eq_getElem_cons hlt, (List.getElem?_eq_some_iff.mp q).2]
    rw [hd, compL, if_pos al] at h2
    refine .inr ⟨g1, fun H' => ∃ ads' G' env' acc va, RS c r ads' G' H' (wipe σ vs) env' ∧ Hx D ads1 G1 H1 ads' G' H' ∧ H' D = some (.lst va) ∧ RepL c G' acc va ∧ New r ads' G' D ∧
      (compEnd e0 vs (compL g et ea vs (alive at_ ts) (ts.drop (i + 1)) acc env')).Sat (fun o env' => ∀ ads' G' H' p ad, RS c r ads' G' H' σ env' → Nxt ads G H ads' G' H' → OwRep c G' H' p ad o → (∀ a ∈ ad, New r ads' G' a ∧ H a = none) → Q (.ref p) H') (XC c r W G σ), fun H' w => ⟨_, by omega, rfl, w⟩, fun x H' y => ?_⟩
    obtain ⟨G3, st, rx⟩ := g2 x H' y
    have R3 := R2.next st
    have x3 := s2.step (Nxt.of (ads := ads2) st)
    have dD := (Nxt.of (ads := ads2) st).hold D _ hDa nw2.2.2
    have nw3 : New r ads2 G3 D := ⟨dD.2.2 nw2.1, nw2.2.1, dD.2.1⟩
    cases qg : g t env2 with
    | none => rw [qg] at h2; exact h2.elim
    | some e3 =>
      rw [qg] at h2
      refine ⟨ads2, G3, env2, t, e3, R3, rx, qg, fun ads4 σ4 R4 l4 a4 b4 c4 => ?_⟩
      have sub4 : ∀ j a, a ∈ ads4 j → a ∈ ads2 j := fun j a m => by
        by_cases z : j ∈ us
        · rcases c4 j z with w | w
          · rw [w] at m; cases m
          · rw [w] at m; exact m
        · rw [b4 j z] at m; exact m
      have hw : wipe σ4 vs = wipe σ vs := wipe_same (fun j hj => a4 j fun z => hj (hu j z)) (by rw [l4, wipe_length])
      refine ⟨hw, ads4, G3, e3, R4, ?_⟩
      have x4 := x3.less sub4
      have nw4 : New r ads4 G3 D := ⟨nw3.1, nw3.2.1, fun j m => nw3.2.2 j (sub4 j D m)⟩
      simp only at h2
      cases qt : et e3 with
      | bad => rw [qt] at h2; exact h2.elim
      | exc x e => rw [qt] at h2; exact h2.elim
      | ok b e4 =>
        rw [qt] at h2
        simp only at h2
        intro ads5 G5 H5 R5 s5
        have x5 := x4.step s5
        have d5 := s5.hold D _ dD.1 nw4.2.2
        have nw5 : New r ads5 G5 D := ⟨d5.2.2 nw4.1, nw4.2.1, d5.2.1⟩
        have ra5 := ra.mono (st.sub.trans s5.sub)
        cases b with
        | false =>
          refine iteF ⟨cutA ads5 vs, G5, _, acc, va, ?_, x5.less cutA_sub, d5.1, ra5, ⟨nw5.1, nw5.2.1, fun j m => nw5.2.2 j (cutA_sub j D m)⟩, h2⟩
          have R6 := R5.wipes hp
          rw [hw] at R6
          exact R6
        | true =>
          refine iteT ⟨ads5, G5, e4, R5, ?_⟩
          simp only [if_true] at h2
          cases qe : ea e4 with
          | bad => rw [qe] at h2; exact h2.elim
          | exc x e => rw [qe] at h2; exact h2.elim
          | ok x e5 =>
            rw [qe] at h2
            cases x with
            | sl j => exact h2.elim
            | tr tx =>
              simp only at h2
              by_cases hl : acc.length < LIM
              rotate_left
              · rw [if_neg hl] at h2; exact h2.elim
              rw [if_pos hl] at h2
              intro ads6 G6 H6 v6 R6 s6 p6
              have x6 := x5.step s6
              have d6 := s6.hold D _ d5.1 nw5.2.2
              have nw6 : New r ads6 G6 D := ⟨d6.2.2 nw5.1, nw5.2.1, d6.2.1⟩
              have ra6 := ra5.mono s6.sub
              refine ⟨va, d6.1, by rw [ra.length]; exact Nat.lt_of_lt_of_le hl (lim_line (Nat.le_refl _)), cutA ads6 vs, G6, _, acc ++ [tx], va ++ [v6], ?_, x6.put.less cutA_sub, upd_same, ra6.append (RepL.one p6), ⟨nw6.1, nw6.2.1, fun j m => nw6.2.2 j (cutA_sub j D m)⟩, h2⟩
              have R7 := (R6.scratch (ho' := .lst (va ++ [v6])) nw6 d6.1).wipes hp
              rw [hw] at R7
              exact R7
end
end TreeL
end
section
/-! TL6: what a def promises, of trees (spF); calls of defs, methods, classes. -/
namespace TreeL
open PySem PySem.Spec PyProof.Rows L2

/-- what a def ends with: its result, and its arguments as they are then -/
inductive FR where
  | ret (a : Arg) (as : List Arg) | exc (x : EX) (as : List Arg) | bad
abbrev FSem := List Arg → FR
def ARep (c : TC) (G H : Hp) : List (List Addr) → List Arg → List V → Prop
  | [], [], [] => True
  | ad :: adl, a :: as, v :: vs => SlotRep c G H ad (some a) (some v) ∧ ARep c G H adl as vs
  | _, _, _ => False
def Apart (adl : List (List Addr)) : Prop := ∀ i j a, a ∈ adl.getD i [] → a ∈ adl.getD j [] → i = j
def FEnd (c : TC) (H G : Hp) (adl : List (List Addr)) (vs : List V) (Q : VK) (E : XK) : FR → Prop
  | .ret t as => ∀ H' G' v, Step adl.flatten H G H' G' → RetRep c H G' H' t v → ARep c G' H' adl as vs → Q v H'
  | .exc x as => ∀ H' G' cls d, Step adl.flatten H G H' G' → RepX c G' x cls d H' → ARep c G' H' adl as vs → E cls d H'
  | .bad => False
/-- a def's promise -/
def spF (c : TC) (n : Nat) (F : FSem) : Sp := fun vs H Q E => vs.length = n ∧ ∃ G args adl, Sub G H ∧ ARep c G H adl args vs ∧ Apart adl ∧ (∀ a ∈ adl.flatten, G a = none) ∧ FEnd c H G adl vs Q E (F args)
theorem spF_len {c : TC} {n : Nat} {F : FSem} : ∀ vs H Q E, spF c n F vs H Q E → vs.length = n := fun _ _ _ _ h => h.1

theorem ARep.lens {c : TC} {G H : Hp} : ∀ {adl : List (List Addr)} {as : List Arg} {vs : List V}, ARep c G H adl as vs → adl.length = as.length ∧ vs.length = as.length
  | [], [], [], _ => ⟨rfl, rfl⟩
  | _ :: _, _ :: _, _ :: _, ⟨_, h⟩ => by simp [(ARep.lens h).1, (ARep.lens h).2]
  | [], [], _ :: _, h => h.elim
  | [], _ :: _, _, h => by cases ‹List V› <;> exact h.elim
  | _ :: _, [], _, h => by cases ‹List V› <;> exact h.elim
  | _ :: _, _ :: _, [], h => h.elim
theorem ARep.at {c : TC} {G H : Hp} : ∀ {adl : List (List Addr)} {as : List Arg} {vs : List V} (i : Nat), ARep c G H adl as vs → SlotRep c G H (adl.getD i []) as[i]? vs[i]?
  | [], [], [], i, _ => by simp [SlotRep]
  | _ :: _, _ :: _, _ :: _, 0, ⟨h, _⟩ => by simpa using h
  | _ :: _, _ :: _, _ :: _, i + 1, ⟨_, h⟩ => by simpa using ARep.at i h
  | [], [], _ :: _, _, h => h.elim
  | [], _ :: _, _, _, h => by cases ‹List V› <;> exact h.elim
  | _ :: _, [], _, _, h => by cases ‹List V› <;> exact h.elim
  | _ :: _, _ :: _, [], _, h => h.elim
theorem ARep.of {c : TC} {G H : Hp} : ∀ {adl : List (List Addr)} {as : List Arg} {vs : List V}, adl.length = as.length → vs.length = as.length → (∀ i, i < as.length → SlotRep c G H (adl.getD i []) as[i]? vs[i]?) → ARep c G H adl as vs
  | [], [], [], _, _, _ => trivial
  | _ :: _, _ :: _, _ :: _, h1, h2, h => ⟨by simpa using h 0 (by simp), ARep.of (by simpa using h1) (by simpa using h2) fun i hi => by simpa using h (i + 1) (by simpa using hi)⟩
  | [], [], _ :: _, _, h, _ => by simp at h
  | [], _ :: _, _, h, _, _ => by simp at h
  | _ :: _, [], _, h, _, _ => by simp at h
  | _ :: _, _ :: _, [], _, h, _ => by simp at h
theorem ARep.append {c : TC} {G H : Hp} : ∀ {adl adl' : List (List Addr)} {as as' : List Arg} {vs vs' : List V}, ARep c G H adl as vs → ARep c G H adl' as' vs' → ARep c G H (adl ++ adl') (as ++ as') (vs ++ vs')
  | [], _, [], _, [], _, _, h => h
  | _ :: _, _, _ :: _, _, _ :: _, _, ⟨a, h⟩, h' => ⟨a, ARep.append h h'⟩
  | [], _, [], _, _ :: _, _, h, _ => h.elim
  | [], _, _ :: _, _, _, _, h, _ => by cases ‹List V› <;> exact h.elim
  | _ :: _, _, [], _, _, _, h, _ => by cases ‹List V› <;> exact h.elim
  | _ :: _, _, _ :: _, _, [], _, h, _ => h.elim

/-! ### room, and no guard stands -/
structure RoomG (k : Nat) (A : Around) : Prop where
  rm : Room k A
  gd : A.guards = some []
theorem RoomG.mono {j k : Nat} {A : Around} (r : RoomG k A) (h : j ≤ k) : RoomG j A := ⟨r.rm.mono h, r.gd⟩
theorem RoomG.deeper {k : Nat} {A : Around} (r : RoomG (k + 1) A) (env : Env) : RoomG k (A.deeper env) := ⟨r.rm.deeper env, r.gd⟩
theorem RoomG.in1 {k : Nat} {A : Around} (r : RoomG (k + 1) A) : RoomG k A.in1 := ⟨r.rm.in1, r.gd⟩
theorem RoomG.make {k : Nat} {A : Around} (r : RoomG (k + 1) A) (C : Addr) (us : List Value) (kw : List (Str × Value)) : RoomG k (A.under (.builtin "type.__call__" ⟨.ref C :: us, kw⟩)) := ⟨r.rm.make C us kw, by
  have e : (Code.builtin "type.__call__" ⟨.ref C :: us, kw⟩).guards = [] := by
    unfold Code.guards
    rw [if_neg (by simp [Code.isGuard, guardIds])]
  show pushGuards (Code.builtin "type.__call__" ⟨.ref C :: us, kw⟩).guards A.guards = some []
  rw [e]
  exact r.gd⟩
/-- a def keeps its promise wherever there is room and no guard stands -/
structure FnG (P : Program) (w : World) (K : PySem.W.Frag) (mg : Str → Option Value) (base : Heap) (k : Nat) (f : Addr) (fd : FuncData) (ps : List Str) (sp : Sp) : Prop where
  len : ∀ vs H Q E, sp vs H Q E → vs.length = ps.length
  run : ∀ (A : Around) (l : List Env) (st : Shared) (H : Hp) (ar : Args) (us : List Value) (vs : List V) (Q : VK) (E : XK), RoomG k A → Env0 P w K mg base A l st H → BindsTo st fd ar (ps.zip us) → Vals vs us → sp vs H Q E →
    codeAny (model P w) A (.call (.ref f) ar) (CR (L2.CX P w) l P w H st Q E) st
theorem FnG.mono {P : Program} {w : World} {K : PySem.W.Frag} {mg : Str → Option Value} {base : Heap} {j k : Nat} {f : Addr} {fd : FuncData} {ps : List Str} {sp : Sp} (F : FnG P w K mg base j f fd ps sp) (h : j ≤ k) : FnG P w K mg base k f fd ps sp := ⟨F.len, fun A l st H ar us vs Q E hr => F.run A l st H ar us vs Q E (hr.mono h)⟩
theorem fnG_of {P : Program} {w : World} {K : PySem.W.Frag} {mg : Str → Option Value} {base : Heap} {x qual : Str} {params : Arguments} {body : List Stmt} {scope : Scope} {dvs : List V} {kws : List (Str × V)} {f : Addr} {fd : FuncData} {N ps : List Str} {k : Nat} {sp : Sp} (F : FunD K x qual params body scope dvs kws f fd) (S : FnScope N ps scope)
    (len : ∀ vs H Q E, sp vs H Q E → vs.length = ps.length)
    (hbody : ∀ (cdv : Value) (A : Around) (l : List Env) (st : Shared) (H : Hp) (vs : List V) (Q : VK) (E : XK), RoomG k (A.deeper (envOfC qual scope st.heap.objs.size f cdv)) → sp vs H Q E →
      ∃ t, PSs (cxOf (L2.CX P w) P w K mg base N qual scope f cdv A l st H E) body t ∧ t { nx := fun _ H' => Q .non H', rt := Q } (L2.start N vs) H) : FnG P w K mg base (k + 1) f fd ps sp := by
  obtain ⟨oc, od, dV, kV, doc, pm, an, cdv, ct, osl, rfl, lk, hcd, _, _⟩ := F.ex
  refine ⟨len, fun A l st H ar us vs Q E hr e0 hb rv hsp => ?_⟩
  have kin : K.In st.heap := e0.mod.kin.keeps fun b o e => (e0.bs b o e).1
  have nol : st.heap.NoLimit := e0.mod.nolimit.keeps fun b o e => (e0.bs b o e).1
  have kinds : ∀ y ∈ ps.zip us, scope.names.lookup y.1 = some .local ∨ (scope.names.lookup y.1 = some .cell ∧ ((cellsFrom (st.heap.objs.size + 1) scope.names []).lookup y.1).isSome = true) := fun ⟨n, v⟩ hy => by
    rcases S.par n (List.of_mem_zip hy).1 with q | q
    · exact .inl q
    · exact .inr ⟨q, PySem.W.cellsFrom_some _ _ _ (.inl q)⟩
  refine codeAny_call_function hr.rm.depth (kin _ _ lk) rfl S.co S.gen rfl (PySem.W.codeRec_of kin hcd) (hb _ _ _ _ ?_)
  refine wpAny_newFunctionEnv_cells S.kind kinds fun env he s1 xc => ?_
  subst he
  refine ⟨nol.keeps xc.toInCall.keep, codeAny_func ?_⟩
  obtain ⟨t, ht, hq⟩ := hbody cdv A l st H vs Q E (hr.deeper _) hsp
  have J : Inv (cxOf (L2.CX P w) P w K mg base N qual scope f cdv A l st H E) [] (L2.start N vs) H s1 := inv_start S hr.rm.hd e0 (len _ _ _ _ hsp) rv xc
  refine wpAny_mono (ht.run [] s1 (L2.start N vs) H _ J hq) (fun fl s' hs => ?_) fun e s' hs => hs
  match fl, hs with
  | .ret u, ⟨v, σ', H', J', rv', q⟩ => exact ⟨v, H', J'.os, J'.bare, J'.base, J'.hok, rv', q⟩
  | .next, ⟨σ', H', J', q⟩ => exact ⟨.non, H', J'.os, J'.bare, J'.base, J'.hok, rfl, q⟩
  | .brk, ⟨_, _, _, q⟩ => exact q.elim
  | .cont, ⟨_, _, _, q⟩ => exact q.elim
/-- the def runs, in the context or deeper -/
theorem runG {X : Cx} {k : Nat} {f : Addr} {fd : FuncData} {ps : List Str} {A' : Around} {sp : Sp} {E : XK} {dw : List Value} {dvs : List V} (hF : FnG X.prog X.w X.K X.mg X.base k f fd ps sp) (hb : Binds X.K fd ps dw) (hd : Vals dvs dw) (hr : RoomG k A') (hfr : A'.frames = some X.stack) {pins : List (Addr × Obj)} {st : Shared} {σ : L2.St} {H : Hp} {us : List Value} {vs : List V} {Q : VK}
    (hx : PassesAt (L2.CX X.prog X.w) X σ E) (I : Inv X pins σ H st) (rv : Vals vs us) (h : sp (vs ++ dvs) H Q E) : wpAny (model X.prog X.w) A' (call (.ref f) us) (EP X pins σ Q) X.xe st := by
  have e := I.env0
  have e0 : Env0 X.prog X.w X.K X.mg X.base A' X.stack st H := ⟨hfr, e.mod, e.bs, e.bsz, e.funs, e.frf, e.hok, e.bare⟩
  have rv2 : Vals (vs ++ dvs) (us ++ dw) := rv.append hd
  have hl : (us ++ dw).length = ps.length := by rw [← rv2.length]; exact hF.len _ _ _ _ h
  refine wpAny_call (codeAny_mono (hF.run A' X.stack st H ⟨us, []⟩ _ _ Q E hr e0 (hb st us I.kIn hl) rv2 h) fun z s' hq => ?_)
  match z, hq with
  | .error e, hq => exact hx pins H st e s' I hq
  | .ok (.ret u), hq => exact I.after hq
  | .ok .next, hq => exact hq.elim
  | .ok .brk, hq => exact hq.elim
  | .ok .cont, hq => exact hq.elim

/-! ### a def by its body -/
@[simp] def upA : Arg → Option Arg → Arg
  | .ow _, some (.ow o) => .ow o
  | a, _ => a
@[simp] def upArgs : List Arg → En → List Arg
  | [], _ => []
  | a :: as, [] => a :: as
  | a :: as, e :: es => upA a e :: upArgs as es
theorem upArgs_length : ∀ (as : List Arg) (e : En), (upArgs as e).length = as.length
  | [], _ => rfl
  | _ :: _, [] => rfl
  | _ :: as, _ :: es => by simp [upArgs, upArgs_length as es]
theorem upArgs_at : ∀ (as : List Arg) (e : En) (i : Nat) (a : Arg), as[i]? = some a → (upArgs as e)[i]? = some (upA a (e[i]?.join))
  | _ :: _, [], i, a, h => by
    rw [upArgs, h]
    cases a <;> simp [upA]
  | _ :: _, _ :: _, 0, a, h => by
    simp at h
    subst h
    simp [upArgs]
  | _ :: as, _ :: es, i + 1, a, h => by simpa [upArgs] using upArgs_at as es i a (by simpa using h)
/-- owned arguments only where the parameter stays -/
@[simp] def okArgs (pn : List Nat) : Nat → List Arg → Bool
  | _, [] => true
  | i, .t _ :: as => okArgs pn (i + 1) as
  | i, .ow _ :: as => pn.contains i && okArgs pn (i + 1) as
theorem okArgs_at {pn : List Nat} : ∀ {as : List Arg} {i j : Nat} {o : OS}, okArgs pn i as = true → as[j]? = some (.ow o) → pn.contains (i + j) = true
  | .t _ :: as, i, 0, o, h, e => by simp at e
  | .ow _ :: as, i, 0, o, h, e => by
    simp only [okArgs, Bool.and_eq_true] at h
    exact h.1
  | .t _ :: as, i, j + 1, o, h, e => by
    have z := okArgs_at (as := as) (i := i + 1) (j := j) h (by simpa using e)
    have q : i + 1 + j = i + (j + 1) := by omega
    rw [← q]; exact z
  | .ow _ :: as, i, j + 1, o, h, e => by
    simp only [okArgs, Bool.and_eq_true] at h
    have z := okArgs_at (as := as) (i := i + 1) (j := j) h.2 (by simpa using e)
    have q : i + 1 + j = i + (j + 1) := by omega
    rw [← q]; exact z
  | [], _, _, _, _, e => by simp at e
@[simp] def env0 (n : Nat) (args : List Arg) : En := args.map some ++ List.replicate (n - args.length) none
/-- n: how many names; pn: the parameters that stay -/
def fDef (n : Nat) (pn : List Nat) (body : EvS) : FSem := fun args => if okArgs pn 0 args then (match body (env0 n args) with
  | .nx e => .ret (.t .non) (upArgs args e)
  | .rt a e => .ret a (upArgs args e)
  | .exc x e => .exc x (upArgs args e)
  | _ => .bad) else .bad
def refOf (H G : Hp) (pn : List Nat) (adl : List (List Addr)) (vs : List V) : Ref := ⟨H, G, adl.flatten, pn.map fun i => (i, vs.getD i .non, adl.getD i [])⟩
theorem refOf_pins {H G : Hp} {pn : List Nat} {adl : List (List Addr)} {vs : List V} : (refOf H G pn adl vs).pins.map Prod.fst = pn := by
  show (pn.map fun i => (i, vs.getD i .non, adl.getD i [])).map Prod.fst = pn
  rw [List.map_map]
  exact List.map_id' _
theorem starts_at {N : List Str} {vs : List V} {i : Nat} : (L2.start N vs)[i]?.join = vs[i]? := by
  unfold L2.start
  by_cases h : i < vs.length
  · rw [List.getElem?_append_left (by simpa using h), List.getElem?_map]
    cases vs[i]? <;> rfl
  · rw [List.getElem?_append_right (by simpa using Nat.le_of_not_lt h), List.getElem?_replicate, List.getElem?_eq_none (Nat.le_of_not_lt h)]
    split <;> rfl
theorem env0_at {n : Nat} {args : List Arg} {i : Nat} : (env0 n args)[i]?.join = args[i]? := by
  unfold env0
  by_cases h : i < args.length
  · rw [List.getElem?_append_left (by simpa using h), List.getElem?_map]
    cases args[i]? <;> rfl
  · rw [List.getElem?_append_right (by simpa using Nat.le_of_not_lt h), List.getElem?_replicate, List.getElem?_eq_none (Nat.le_of_not_lt h)]
    split <;> rfl
section
variable {c : TC} {G H : Hp} {N : List Str} {pn : List Nat} {adl : List (List Addr)} {args : List Arg} {vs : List V}
theorem mem_flatten_getD {a : Addr} {i : Nat} (h : a ∈ adl.getD i []) : a ∈ adl.flatten := by
  rw [List.getD_eq_getElem?_getD] at h
  cases q : adl[i]? with
  | none => rw [q] at h; cases h
  | some l =>
    rw [q] at h
    exact List.mem_flatten.mpr ⟨l, List.mem_of_getElem? q, h⟩
theorem RS.begin (s : Sub G H) (ar : ARep c G H adl args vs) (ap : Apart adl) (gn : ∀ a ∈ adl.flatten, G a = none) (ok : okArgs pn 0 args = true) (hl : vs.length ≤ N.length) (hpn : ∀ i ∈ pn, i < vs.length) :
    RS c (refOf H G pn adl vs) (fun i => adl.getD i []) G H (L2.start N vs) (env0 N.length args) where
  step := Step.refl s
  len := by
    unfold env0 L2.start
    have := ar.lens
    simp only [List.length_append, List.length_map, List.length_replicate]
    omega
  slot := fun i => by rw [starts_at, env0_at]; exact ar.at i
  own := fun i a ha => by
    have m := mem_flatten_getD ha
    refine ⟨gn a m, .inl ⟨?_, m⟩⟩
    rw [refOf_pins]
    have z := ar.at i
    cases q : args[i]? with
    | none => rw [q] at z; rw [z] at ha; cases ha
    | some x =>
      rw [q] at z
      cases x with
      | t t =>
        cases w : vs[i]? with
        | none => rw [w] at z; exact (show False from z).elim
        | some v => rw [w] at z; rw [z.1] at ha; cases ha
      | ow o =>
        have y := okArgs_at ok q
        rw [Nat.zero_add] at y
        exact List.contains_iff_mem.mp y
  disj := fun i j a h1 h2 => ap i j a h1 h2
  pin := fun q hq => by
    obtain ⟨i, hi, rfl⟩ := List.mem_map.mp hq
    refine ⟨?_, rfl⟩
    have lt := hpn i hi
    unfold L2.start
    rw [List.getElem?_append_left (by simpa using lt), List.getElem?_map, List.getElem?_eq_getElem lt]
    simp [List.getD_eq_getElem?_getD, List.getElem?_eq_getElem lt]
theorem RS.ended {H' G' : Hp} {ads' : Nat → List Addr} {σ' : L2.St} {env' : En} (ar : ARep c G H adl args vs) (ok : okArgs pn 0 args = true) (R : RS c (refOf H G pn adl vs) ads' G' H' σ' env') : ARep c G' H' adl (upArgs args env') vs := by
  have l := ar.lens
  refine ARep.of (by rw [upArgs_length]; exact l.1) (by rw [upArgs_length]; exact l.2) fun i hi => ?_
  rw [upArgs_length] at hi
  have z := ar.at i
  have hx : args[i]? = some args[i] := List.getElem?_eq_getElem hi
  rw [upArgs_at args env' i _ hx]
  rw [hx] at z
  have hv : vs[i]? = some (vs[i]'(by omega)) := List.getElem?_eq_getElem (by omega)
  rw [hv] at z ⊢
  cases q : args[i] with
  | t t =>
    rw [q] at z
    have e : upA (.t t) (env'[i]?.join) = .t t := by simp [upA]
    rw [e]
    exact ⟨z.1, z.2.mono R.step.sub⟩
  | ow o =>
    rw [q] at z hx
    obtain ⟨p, e0, ow⟩ := z
    have y := okArgs_at ok hx
    rw [Nat.zero_add] at y
    have pin := R.pin (i, vs.getD i .non, adl.getD i []) (List.mem_map.mpr ⟨i, List.contains_iff_mem.mp y, rfl⟩)
    have pin1 : σ'[i]? = some (some (vs.getD i .non)) := pin.1
    have pin2 : ads' i = adl.getD i [] := pin.2
    have ev : vs.getD i .non = vs[i]'(by omega) := by rw [List.getD_eq_getElem?_getD, hv]; rfl
    have sl := R.slot i
    rw [pin1, pin2, ev] at sl
    have pm : p ∈ adl.getD i [] := by
      cases o with
      | lst _ => rw [ow.1]; exact List.mem_singleton.mpr rfl
      | dct _ _ => rw [ow.1]; exact List.mem_singleton.mpr rfl
      | ins _ _ => rw [ow.1]; exact List.mem_singleton.mpr rfl
      | boxD _ _ => obtain ⟨q, e, _⟩ := ow; rw [e]; exact List.mem_cons_self
      | boxL _ _ => obtain ⟨q, e, _⟩ := ow; rw [e]; exact List.mem_cons_self
      | lof _ _ => obtain ⟨q, _, _, e, _⟩ := ow; rw [e]; exact List.mem_cons_self
    cases w : env'[i]?.join with
    | none => rw [w] at sl; rw [show adl.getD i [] = [] from sl] at pm; cases pm
    | some a =>
      rw [w] at sl
      cases a with
      | t t => rw [show adl.getD i [] = [] from sl.1] at pm; cases pm
      | ow o' => exact sl
end
section
variable {P : Program} {w : World} {K : PySem.W.Frag} {mg : Str → Option Value} {base : Heap} {x qual : Str} {params : Arguments} {body : List Stmt} {scope : Scope} {dvs : List V} {kws : List (Str × V)} {f : Addr} {fd : FuncData}
/-- the facts of a def's own context -/
structure DefCx (P : Program) (w : World) (K : PySem.W.Frag) (mg : Str → Option Value) (base : Heap) (N : List Str) (scope : Scope) (k : Nat) (pn : List Nat) (X : Cx) (r : Ref) (W : WX) : Prop where
  prog : X.prog = P
  w : X.w = w
  K : X.K = K
  mg : X.mg = mg
  base : X.base = base
  N : X.N = N
  sc : X.env.scope = scope
  calm : X.calm = true
  fn : X.fn = fun _ => true
  room : RoomG k X.A
  takes : Takes X W
  owns : PassesOwn (model X.prog X.w) X.A X.env X.xe
  pins : r.pins.map Prod.fst = pn
/-- THE RULE: a def, by its body's tree function -/
theorem fn_tree {c : TC} {N ps : List Str} {k : Nat} {pn : List Nat} {xs : EvS} (F : FunD K x qual params body scope dvs kws f fd) (S : FnScope N ps scope) (hpn : ∀ i ∈ pn, i < ps.length)
    (hbody : ∀ (cdv : Value) (A : Around) (outer : List Env) (s : Shared) (H : Hp) (E : XK) (r : Ref), let X := cxOf (L2.CX P w) P w K mg base N qual scope f cdv A outer s H E; RoomG k X.A → r.pins.map Prod.fst = pn → Takes X (fun cls d _ H' => E cls d H') → PassesOwn (model X.prog X.w) X.A X.env X.xe →
      PSs X body (TSof c r (fun cls d _ H' => E cls d H') xs)) : FnG P w K mg base (k + 1) f fd ps (spF c ps.length (fDef N.length pn xs)) := by
  refine fnG_of F S spF_len fun cdv A outer s H vs Q E hr ⟨hl, G, args, adl, sb, ar, ap, gn, he⟩ => ?_
  have tk : Takes (cxOf (L2.CX P w) P w K mg base N qual scope f cdv A outer s H E) (fun cls d _ H' => E cls d H') := takes_of rfl rfl rfl rfl
  have po : PassesOwn (model P w) (cxOf (L2.CX P w) P w K mg base N qual scope f cdv A outer s H E).A (cxOf (L2.CX P w) P w K mg base N qual scope f cdv A outer s H E).env (cxOf (L2.CX P w) P w K mg base N qual scope f cdv A outer s H E).xe := passes_of rfl
  refine ⟨_, hbody cdv A outer s H E (refOf H G pn adl vs) hr refOf_pins tk po, ?_⟩
  have hpl : ps.length ≤ N.length := by have := congrArg List.length S.pre; rw [List.length_take] at this; omega
  unfold fDef at he
  by_cases ok : okArgs pn 0 args = true
  rotate_left
  · rw [if_neg ok] at he; exact he.elim
  rw [if_pos ok] at he
  refine ⟨_, G, _, RS.begin sb ar ap gn ok (by omega) (by rw [hl]; exact hpn), ?_⟩
  cases q : xs (env0 N.length args) with
  | nx e =>
    rw [q] at he
    exact fun ads' G' H' σ' R s' => he H' G' .non R.step (by simp [RetRep, Rep]) (RS.ended ar ok R)
  | rt a e =>
    rw [q] at he
    exact fun ads' G' H' σ' v R s' rr => he H' G' v R.step rr (RS.ended ar ok R)
  | exc x e =>
    rw [q] at he
    exact fun ads' G' H' σ' cls d R s' rx => he H' G' cls d R.step rx (RS.ended ar ok R)
  | bk e => rw [q] at he; exact he.elim
  | ct e => rw [q] at he; exact he.elim
  | bad => rw [q] at he; exact he.elim
end

/-! ### calls -/
@[simp] def argOf (env : En) : Vl → Option Arg
  | .tr t => some (.t t)
  | .sl i => env[i]?.join
@[simp] def argsOf (env : En) : List Vl → Option (List Arg)
  | [] => some []
  | x :: xs => match argOf env x, argsOf env xs with
    | some a, some as => some (a :: as)
    | _, _ => none
/-- no slot twice -/
@[simp] def slotsOf : List Vl → List Nat
  | [] => []
  | .tr _ :: xs => slotsOf xs
  | .sl i :: xs => i :: slotsOf xs
@[simp] def noTwice : List Nat → Bool
  | [] => true
  | i :: l => !l.contains i && noTwice l
@[simp] def putArgs : List Vl → List Arg → En → En
  | x :: xs, a :: as, env => match x, a with
    | .sl i, .ow o => (putArgs xs as env).set i (some (.ow o))
    | _, _ => putArgs xs as env
  | _, _, env => env
def adOf (ads : Nat → List Addr) : Vl → List Addr
  | .tr _ => []
  | .sl i => ads i
theorem putArgs_length : ∀ (xs : List Vl) (as : List Arg) (env : En), (putArgs xs as env).length = env.length
  | [], _, _ => rfl
  | _ :: _, [], _ => rfl
  | .tr _ :: xs, _ :: as, env => putArgs_length xs as env
  | .sl i :: xs, .t _ :: as, env => putArgs_length xs as env
  | .sl i :: xs, .ow o :: as, env => by
    show ((putArgs xs as env).set i (some (.ow o))).length = _
    rw [List.length_set, putArgs_length xs as env]
theorem slotsOf_mem {i : Nat} : ∀ {xs : List Vl}, i ∈ slotsOf xs ↔ Vl.sl i ∈ xs
  | [] => by simp [slotsOf]
  | .tr _ :: xs => by simp [slotsOf, slotsOf_mem (xs := xs)]
  | .sl j :: xs => by simp [slotsOf, slotsOf_mem (xs := xs)]
section
variable {c : TC} {r : Ref} {ads : Nat → List Addr} {G H G1 H1 : Hp} {σ : L2.St} {env : En} {xs : List Vl} {vs : List V} {args as : List Arg}
theorem RS.arep (R : RS c r ads G H σ env) : ∀ {xs : List Vl} {vs : List V} {args : List Arg}, VReps c σ G xs vs → argsOf env xs = some args → ARep c G H (xs.map (adOf ads)) args vs
  | [], _, _, h, e => by cases h; cases e; trivial
  | x :: xs, _, args, ⟨v, u, e1, h, t⟩, e => by
    subst e1
    simp only [argsOf] at e
    cases q : argOf env x with
    | none => rw [q] at e; cases e
    | some a =>
      rw [q] at e
      cases q2 : argsOf env xs with
      | none => rw [q2] at e; cases e
      | some as =>
        rw [q2] at e
        cases e
        refine ⟨?_, RS.arep R t q2⟩
        cases x with
        | tr t => cases q; exact ⟨rfl, h⟩
        | sl i =>
          have z := R.slot i
          rw [show σ[i]? = some (some v) from h, show env[i]?.join = some a from q] at z
          exact z
theorem RS.apart (R : RS c r ads G H σ env) : ∀ {xs : List Vl}, noTwice (slotsOf xs) = true → Apart (xs.map (adOf ads)) ∧ (∀ i a, a ∈ (xs.map (adOf ads)).getD i [] → ∃ j, j ∈ slotsOf xs ∧ a ∈ ads j)
  | [], _ => ⟨fun i j a h => by simp at h, fun i a h => by simp at h⟩
  | .tr t :: xs, h => by
    obtain ⟨h1, h2⟩ := RS.apart R (xs := xs) h
    refine ⟨fun i j a ha hb => ?_, fun i a ha => ?_⟩
    · cases i with
      | zero => simp [adOf] at ha
      | succ i =>
        cases j with
        | zero => simp [adOf] at hb
        | succ j => rw [h1 i j a (by simpa using ha) (by simpa using hb)]
    · cases i with
      | zero => simp [adOf] at ha
      | succ i => exact h2 i a (by simpa using ha)
  | .sl k :: xs, h => by
    simp only [slotsOf, noTwice, Bool.and_eq_true, Bool.not_eq_true'] at h
    obtain ⟨h1, h2⟩ := RS.apart R (xs := xs) h.2
    have no : ∀ j a, a ∈ (xs.map (adOf ads)).getD j [] → a ∉ ads k := fun j a ha hb => by
      obtain ⟨m, m1, m2⟩ := h2 j a ha
      have e := R.disj m k a m2 hb
      subst e
      rw [List.contains_iff_mem.mpr m1] at h
      cases h.1
    refine ⟨fun i j a ha hb => ?_, fun i a ha => ?_⟩
    · cases i with
      | zero =>
        cases j with
        | zero => rfl
        | succ j => exact absurd (by simpa [adOf] using ha) (no j a (by simpa using hb))
      | succ i =>
        cases j with
        | zero => exact absurd (by simpa [adOf] using hb) (no i a (by simpa using ha))
        | succ j => rw [h1 i j a (by simpa using ha) (by simpa using hb)]
    · cases i with
      | zero => exact ⟨k, List.mem_cons_self, by simpa [adOf] using ha⟩
      | succ i =>
        obtain ⟨m, m1, m2⟩ := h2 i a (by simpa using ha)
        exact ⟨m, List.mem_cons_of_mem _ m1, m2⟩
theorem mem_adOf {a : Addr} (h : a ∈ (xs.map (adOf ads)).flatten) : ∃ i, Vl.sl i ∈ xs ∧ a ∈ ads i := by
  obtain ⟨l, h1, h2⟩ := List.mem_flatten.mp h
  obtain ⟨x, h3, rfl⟩ := List.mem_map.mp h1
  cases x with
  | tr _ => cases h2
  | sl i => exact ⟨i, h3, h2⟩
theorem put_slot (hl : env.length = σ.length) : ∀ {xs : List Vl} {as : List Arg} {vs : List V}, VReps c σ G xs vs → ARep c G1 H1 (xs.map (adOf ads)) as vs → ∀ j,
    ((putArgs xs as env)[j]? = env[j]? ∧ (Vl.sl j ∈ xs → ads j = [])) ∨ SlotRep c G1 H1 (ads j) ((putArgs xs as env)[j]?.join) (σ[j]?.join)
  | [], as, vs, _, _, j => by cases as <;> exact .inl ⟨rfl, fun h => nomatch h⟩
  | x :: xs, [], _, ⟨_, _, e, _⟩, h, j => by subst e; exact h.elim
  | .tr t :: xs, a :: as, _, ⟨v, u, e, h, ht⟩, ha, j => by
    subst e
    rcases put_slot hl ht ha.2 j with ⟨z1, z2⟩ | z
    · refine .inl ⟨z1, fun m => ?_⟩
      rcases List.mem_cons.mp m with y | y
      · cases y
      · exact z2 y
    · exact .inr z
  | .sl i :: xs, .t t :: as, _, ⟨v, u, e, h, ht⟩, ha, j => by
    subst e
    rcases put_slot hl ht ha.2 j with ⟨z1, z2⟩ | z
    · refine .inl ⟨z1, fun m => ?_⟩
      rcases List.mem_cons.mp m with y | y
      · cases y
        exact ha.1.1
      · exact z2 y
    · exact .inr z
  | .sl i :: xs, .ow o :: as, _, ⟨v, u, e, h, ht⟩, ha, j => by
    subst e
    have hs : σ[i]? = some (some v) := h
    have lt : i < (putArgs xs as env).length := by
      rw [putArgs_length, hl]
      exact (List.getElem?_eq_some_iff.mp hs).1
    show (((putArgs xs as env).set i (some (.ow o)))[j]? = env[j]? ∧ _) ∨ SlotRep c G1 H1 (ads j) (((putArgs xs as env).set i (some (.ow o)))[j]?.join) (σ[j]?.join)
    by_cases q : i = j
    · subst q
      refine .inr ?_
      rw [join_set_self lt, hs]
      exact ha.1
    · rw [join_set_ne q, List.getElem?_set_ne q]
      rcases put_slot hl ht ha.2 j with ⟨z1, z2⟩ | z
      · refine .inl ⟨z1, fun m => ?_⟩
        rcases List.mem_cons.mp m with y | y
        · cases y; exact absurd rfl q
        · exact z2 y
      · exact .inr z
/-- behind a call with the values xs -/
theorem RS.call {B : List Addr} (R : RS c r ads G H σ env) (pv : VReps c σ G xs vs) (st : Step B H G H1 G1) (hB : ∀ a ∈ B, (∃ i, Vl.sl i ∈ xs ∧ a ∈ ads i) ∨ H a = none) (ar : ARep c G1 H1 (xs.map (adOf ads)) as vs) :
    RS c r ads G1 H1 σ (putArgs xs as env) where
  step := R.step.trans st fun a ha => by
    rcases hB a ha with ⟨i, _, z⟩ | z
    · rcases (R.own i a z).2 with y | y
      · exact .inl y.2
      · exact .inr y
    · exact .inr (R.step.there a z)
  len := by rw [putArgs_length]; exact R.len
  slot := fun j => by
    rcases put_slot R.len pv ar j with ⟨z1, z2⟩ | z
    · rw [z1]
      refine (R.slot j).stay st.sub fun a ha u e => st.keep a u (fun hb => ?_) e
      rcases hB a hb with ⟨i, m, y⟩ | y
      · have e' := R.disj i j a y ha
        subst e'
        rw [z2 m] at ha; cases ha
      · rw [y] at e; cases e
    · exact z
  own := fun i a h => by
    refine ⟨?_, (R.own i a h).2⟩
    cases e : G1 a with
    | none => rfl
    | some u =>
      rcases st.new a u e with z | z
      · rw [(R.own i a h).1] at z; cases z
      · obtain ⟨u', e'⟩ := R.ownSome h
        rw [z] at e'; cases e'
  disj := R.disj
  pin := R.pin
theorem RS.callNxt {B : List Addr} (R : RS c r ads G H σ env) (st : Step B H G H1 G1) (hB : ∀ a ∈ B, (∃ i, Vl.sl i ∈ xs ∧ a ∈ ads i) ∨ H a = none) : Nxt ads G H ads G1 H1 where
  sub := st.sub
  hold := fun a o e n => by
    refine ⟨st.keep a o (fun hb => ?_) e, n, fun q => ?_⟩
    · rcases hB a hb with ⟨i, _, y⟩ | y
      · exact n i y
      · rw [y] at e; cases e
    · cases z : G1 a with
      | none => rfl
      | some u =>
        rcases st.new a u z with y | y
        · rw [q] at y; cases y
        · rw [e] at y; cases y
  there := st.there
theorem ARep.trs {G H : Hp} : ∀ {ts : List PV} {vs : List V}, RepL c G ts vs → ARep c G H (ts.map fun _ => []) (ts.map Arg.t) vs
  | [], _, h => by cases h; trivial
  | _ :: _, _, ⟨v, r, e, h, t⟩ => by subst e; exact ⟨⟨rfl, h⟩, ARep.trs t⟩
theorem ARep.cutF {G H : Hp} : ∀ {adl adl' : List (List Addr)} {as : List Arg} {vs vs' : List V}, adl.length = vs.length → ARep c G H (adl ++ adl') as (vs ++ vs') → ARep c G H adl (as.take vs.length) vs
  | [], _, _, [], _, _, _ => by simp; trivial
  | _ :: adl, _, [], _ :: vs, _, _, h => h.elim
  | _ :: adl, _, _ :: as, _ :: vs, _, l, h => ⟨h.1, ARep.cutF (by simpa using l) h.2⟩
  | [], _, _, _ :: _, _, l, _ => by simp at l
  | _ :: _, _, _, [], _, l, _ => by simp at l
theorem flatten_nils {α β : Type} : ∀ (ts : List α), (ts.map fun _ => ([] : List β)).flatten = []
  | [] => rfl
  | _ :: ts => by simpa using flatten_nils ts
theorem apart_nils {adl : List (List Addr)} {α : Type} {ts : List α} (h : Apart adl) : Apart (adl ++ ts.map fun _ => []) := by
  have e : ∀ i, (adl ++ ts.map fun _ => ([] : List Addr)).getD i [] = adl.getD i [] := fun i => by
    rw [List.getD_eq_getElem?_getD, List.getD_eq_getElem?_getD]
    by_cases lt : i < adl.length
    · rw [List.getElem?_append_left lt]
    · rw [List.getElem?_append_right (Nat.le_of_not_lt lt), List.getElem?_eq_none (Nat.le_of_not_lt lt), List.getElem?_map]
      cases ts[i - adl.length]? <;> rfl
  intro i j a h1 h2
  rw [e] at h1 h2
  exact h i j a h1 h2
end

/-- f(..): n how many parameters, ds the defaults that fill up -/
@[simp] def okCall (n : Nat) (ds : List PV) (xs : List Vl) : Bool := noTwice (slotsOf xs) && xs.length + ds.length == n
@[simp] def rCall (n : Nat) (F : FSem) (ds : List PV) (el : EvA) : EvR := fun env => (el env).bind fun xs e => if okCall n ds xs then (match argsOf e xs with
  | none => .bad
  | some args => match F (args ++ ds.map Arg.t) with
    | .ret a as => .ok a (putArgs xs (as.take xs.length) e)
    | .exc x as => .exc x (putArgs xs (as.take xs.length) e)
    | .bad => .bad) else .bad
/-- o.m(..): o an instance of the class k -/
def rMeth (k : Nat) (m : Str) (n : Nat) (F : FSem) (ds : List PV) (ea : EvE) (el : EvA) : EvR := fun env => (ea env).bind fun x e1 => match look e1 x with
  | some (.ins k' fs) => if k' = k ∧ fs.lookup m = none then rCall n F ds (fun env => (el env).bind fun xs e => .ok (x :: xs) e) e1 else .bad
  | _ => .bad
/-- C(..): a new instance of the class k, then __init__ -/
def rMake (k : Nat) (n : Nat) (F : FSem) (ds : List PV) (el : EvA) : EvR := fun env => (el env).bind fun xs e => if okCall n ds (.tr .non :: xs) then (match argsOf e xs with
  | none => .bad
  | some args => match F (.ow (.ins k []) :: (args ++ ds.map Arg.t)) with
    | .ret (.t .non) (.ow o :: as) => RE.ok (Arg.ow o) (putArgs xs (as.take xs.length) e)
    | .exc x (_ :: as) => .exc x (putArgs xs (as.take xs.length) e)
    | _ => .bad) else .bad
section
variable {X : Cx} {c : TC} {r : Ref} {W : WX} {F : FSem} {el : EvA} {n : Nat} {ds : List PV} {dvs : List V}
theorem VReps.length {σ : L2.St} {G : Hp} : ∀ {xs : List Vl} {vs : List V}, VReps c σ G xs vs → vs.length = xs.length
  | [], _, h => by cases h; rfl
  | _ :: _, _, ⟨v, u, e, _, t⟩ => by subst e; simp [VReps.length t]
/-- the promise of the def, at the values xs -/
theorem call_core {ads0 ads : Nat → List Addr} {G0 H0 G H : Hp} {σ : L2.St} {env : En} {xs : List Vl} {vs : List V} {Q : VK} (R : RS c r ads G H σ env) (s0 : Nxt ads0 G0 H0 ads G H) (pv : VReps c σ G xs vs) (hd : ∀ G, RepL c G ds dvs)
    (h : (if okCall n ds xs then (match argsOf env xs with
      | none => RE.bad
      | some args => match F (args ++ ds.map Arg.t) with
        | .ret a as => .ok a (putArgs xs (as.take xs.length) env)
        | .exc x as => .exc x (putArgs xs (as.take xs.length) env)
        | .bad => .bad) else .bad).Sat (fun o env' => ∀ ads' G' H' v, RS c r ads' G' H' σ env' → Nxt ads0 G0 H0 ads' G' H' → ResNew c r ads' G' H0 H' o v → Q v H') (XC c r W G0 σ)) :
    spF c n F (vs ++ dvs) H Q (WE W σ) := by
  have ld := (hd G).length
  have lx := pv.length
  by_cases nt : okCall n ds xs = true
  rotate_left
  · rw [if_neg nt] at h; exact h.elim
  rw [if_pos nt] at h
  simp only [okCall, Bool.and_eq_true, beq_iff_eq] at nt
  refine ⟨by rw [List.length_append, ld, lx]; exact nt.2, ?_⟩
  cases qa : argsOf env xs with
  | none => rw [qa] at h; exact h.elim
  | some args =>
    rw [qa] at h
    have ar := R.arep pv qa
    have ap := R.apart nt.1
    have hB : ∀ a ∈ (xs.map (adOf ads) ++ ds.map fun _ => []).flatten, (∃ i, Vl.sl i ∈ xs ∧ a ∈ ads i) ∨ H a = none := fun a ha => by
      rw [List.flatten_append, flatten_nils, List.append_nil] at ha
      exact .inl (mem_adOf ha)
    refine ⟨G, args ++ ds.map Arg.t, xs.map (adOf ads) ++ ds.map fun _ => [], R.sub, ar.append (ARep.trs (hd G)), apart_nils ap.1, fun a ha => ?_, ?_⟩
    · rcases hB a ha with ⟨i, _, z⟩ | z
      · exact (R.own i a z).1
      · cases e : G a with
        | none => rfl
        | some u => rw [R.sub _ _ e] at z; cases z
    · cases qf : F (args ++ ds.map Arg.t) with
      | bad => simp only [qf] at h; exact h.elim
      | ret a as =>
        simp only [qf] at h
        intro H' G' v st rr ar'
        have ar2 := ARep.cutF (by simp [lx]) ar'
        rw [lx] at ar2
        have R' := R.call pv st hB ar2
        refine h ads G' H' v R' (s0.trans (R.callNxt st hB)) ?_
        cases a with
        | t t => exact rr
        | ow o =>
          obtain ⟨p, ad, e, ow, fr⟩ := rr
          refine ⟨p, ad, e, ow, fun b hb => ?_⟩
          have z := fr b hb
          refine ⟨⟨z.1, R.step.there b z.2, fun j hj => ?_⟩, s0.there b z.2⟩
          obtain ⟨u, e⟩ := R.ownSome hj
          rw [z.2] at e; cases e
      | exc x as =>
        simp only [qf] at h
        intro H' G' cls d st rx ar'
        have ar2 := ARep.cutF (by simp [lx]) ar'
        rw [lx] at ar2
        exact h ads G' H' cls d (R.call pv st hB ar2) (s0.sub.trans st.sub) rx
theorem call_imp (hd : ∀ G, RepL c G ds dvs) {σ : L2.St} {H : Hp} {Q : VK} (h : TRof c r W (rCall n F ds el) σ H Q) : tCallSD (spF c n F) dvs (WE W) (TAof c r W el) σ H Q := by
  obtain ⟨ads, G, env, R, h⟩ := h
  exact ⟨ads, G, env, R, Sat_mono (Sat_bind.mp h) (fun xs e1 h1 ads1 G1 H1 vs R1 s1 p1 => call_core R1 s1 p1 hd h1) fun _ _ z => z⟩
def tMethS (C : Addr) (m : Str) (sp : Sp) (dvs : List V) (E : L2.St → XK) (ta : TE) (t : TA) : TE := fun σ H Q => ta σ H fun x H1 => ∃ a dx fs, x = .ref a ∧ H1 a = some (.ins C dx fs) ∧ fs.lookup m = none ∧
  t σ H1 fun vs H2 => sp (x :: (vs ++ dvs)) H2 Q (E σ)
theorem meth_imp {k : Nat} {m : Str} {ea : EvE} (hd : ∀ G, RepL c G ds dvs) {σ : L2.St} {H : Hp} {Q : VK} (h : TRof c r W (rMeth k m n F ds ea el) σ H Q) : tMethS (c.C k) m (spF c n F) dvs (WE W) (TEof c r W ea) (TAof c r W el) σ H Q := by
  obtain ⟨ads, G, env, R, h⟩ := h
  refine ⟨ads, G, env, R, Sat_mono (Sat_bind.mp h) (fun x e1 h1 ads1 G1 H1 v1 R1 s1 p1 => ?_) fun _ _ z => z⟩
  cases q : look e1 x with
  | none => simp only [q] at h1; exact h1.elim
  | some t =>
    have w := look_rep R1 p1 q
    cases t with
    | ins k' fs =>
      simp only [q] at h1
      by_cases z : k' = k ∧ fs.lookup m = none
      · rw [if_pos z] at h1
        obtain ⟨rfl, z⟩ := z
        obtain ⟨a, dx, gs, rfl, hH, rf⟩ := w
        refine ⟨a, dx, gs, rfl, hH, rf.lookupN z, ads1, G1, e1, R1, ?_⟩
        have h2 := Sat_bind.mp (Sat_bind.mp h1)
        refine Sat_mono h2 (fun xs e2 h3 ads2 G2 H2 vs R2 s2 p2 => ?_) fun x e z => z.weak s1.sub
        exact call_core (xs := x :: xs) (vs := .ref a :: vs) R2 (s1.trans s2) ⟨_, _, rfl, p1.mono s2.sub, p2⟩ hd h3
      · rw [if_neg z] at h1; exact h1.elim
    | _ => simp only [q] at h1; exact h1.elim
def tMakeS (C : Addr) (sp : Sp) (dvs : List V) (E : L2.St → XK) (t : TA) : TE := fun σ H Q => t σ H fun vs H1 => ∀ x dx, H1 x = none → H1 dx = none → dx ≠ x →
  sp (.ref x :: (vs ++ dvs)) (upd (upd H1 dx (.own x)) x (.ins C dx [])) (fun v H2 => v = .non ∧ Q (.ref x) H2) (E σ)
theorem apart_new {adl : List (List Addr)} {x : Addr} (h : Apart adl) (n : ∀ a ∈ adl.flatten, a ≠ x) : Apart ([x] :: adl) := by
  have no : ∀ j a, a ∈ adl.getD j [] → a ∉ [x] := fun j a h1 h2 => n a (mem_flatten_getD h1) (List.mem_singleton.mp h2)
  intro i j a ha hb
  cases i with
  | zero =>
    cases j with
    | zero => rfl
    | succ j => exact absurd (by simpa using ha) (no j a (by simpa using hb))
  | succ i =>
    cases j with
    | zero => exact absurd (by simpa using hb) (no i a (by simpa using ha))
    | succ j => rw [h i j a (by simpa using ha) (by simpa using hb)]
theorem Step.allocB {G H : Hp} {p : Addr} {o : HO} (h : Sub G H) (hp : H p = none) {B : List Addr} : Step B H G (upd H p o) G := (Step.allocO h hp).wide fun _ z => nomatch z
theorem make_core {k : Nat} {ads0 ads : Nat → List Addr} {G0 H0 G H : Hp} {σ : L2.St} {env : En} {xs : List Vl} {vs : List V} {Q : VK} (R : RS c r ads G H σ env) (s0 : Nxt ads0 G0 H0 ads G H) (pv : VReps c σ G xs vs) (hd : ∀ G, RepL c G ds dvs)
    (h : (if okCall n ds (.tr .non :: xs) then (match argsOf env xs with
      | none => RE.bad
      | some args => match F (Arg.ow (.ins k []) :: (args ++ ds.map Arg.t)) with
        | .ret (.t .non) (.ow o :: as) => RE.ok (Arg.ow o) (putArgs xs (as.take xs.length) env)
        | .exc x (_ :: as) => .exc x (putArgs xs (as.take xs.length) env)
        | _ => .bad) else .bad).Sat (fun o env' => ∀ ads' G' H' v, RS c r ads' G' H' σ env' → Nxt ads0 G0 H0 ads' G' H' → ResNew c r ads' G' H0 H' o v → Q v H') (XC c r W G0 σ)) (x dx : Addr) (hx : H x = none) (hdx : H dx = none) (ne : dx ≠ x) :
    spF c n F (.ref x :: (vs ++ dvs)) (upd (upd H dx (.own x)) x (.ins (c.C k) dx [])) (fun v H2 => v = .non ∧ Q (.ref x) H2) (WE W σ) := by
  have ld := (hd G).length
  have lx := pv.length
  by_cases nt : okCall n ds (.tr .non :: xs) = true
  rotate_left
  · rw [if_neg nt] at h; exact h.elim
  rw [if_pos nt] at h
  simp only [okCall, Bool.and_eq_true, beq_iff_eq, List.length_cons, slotsOf] at nt
  refine ⟨by simp only [List.length_cons, List.length_append, ld, lx]; omega, ?_⟩
  cases qa : argsOf env xs with
  | none => rw [qa] at h; exact h.elim
  | some args =>
    rw [qa] at h
    have st1 : Step [] H G (upd H dx (.own x)) G := Step.allocO R.sub hdx
    have hx1 : (upd H dx (.own x)) x = none := by rw [upd_ne (Ne.symm ne)]; exact hx
    have st2 : Step [] H G (upd (upd H dx (.own x)) x (.ins (c.C k) dx [])) G := st1.trans0 (Step.allocO st1.sub1 hx1)
    have R1 := R.next st2
    have ar := R1.arep pv qa
    have ap := R1.apart nt.1
    have gx : G x = none := by
      cases e : G x with
      | none => rfl
      | some u => rw [R.sub _ _ e] at hx; cases hx
    have fx : ∀ a ∈ (xs.map (adOf ads)).flatten, a ≠ x := fun a ha e => by
      obtain ⟨i, _, z⟩ := mem_adOf ha
      obtain ⟨u, e'⟩ := R.ownSome z
      rw [e, hx] at e'; cases e'
    have fl : (xs.map (adOf ads) ++ ds.map fun _ => []).flatten = (xs.map (adOf ads)).flatten := by rw [List.flatten_append, flatten_nils, List.append_nil]
    refine ⟨G, Arg.ow (.ins k []) :: (args ++ ds.map Arg.t), [x] :: (xs.map (adOf ads) ++ ds.map fun _ => []), st2.sub1, ⟨⟨x, rfl, rfl, dx, [], upd_same, rfl⟩, ar.append (ARep.trs (hd G))⟩, apart_new (apart_nils ap.1) (by rw [fl]; exact fx), fun a ha => ?_, ?_⟩
    · simp only [List.flatten_cons, fl] at ha
      rcases List.mem_append.mp ha with z | z
      · rw [List.mem_singleton.mp z]; exact gx
      · obtain ⟨i, _, y⟩ := mem_adOf z
        exact (R.own i a y).1
    · have hB : ∀ a ∈ ([x] :: (xs.map (adOf ads) ++ ds.map fun _ => [])).flatten, (∃ i, Vl.sl i ∈ xs ∧ a ∈ ads i) ∨ H a = none := fun a ha => by
        simp only [List.flatten_cons, fl] at ha
        rcases List.mem_append.mp ha with z | z
        · rw [List.mem_singleton.mp z]; exact .inr hx
        · exact .inl (mem_adOf z)
      cases qf : F (Arg.ow (.ins k []) :: (args ++ ds.map Arg.t)) with
      | bad => simp only [qf] at h; exact h.elim
      | ret a as =>
        simp only [qf] at h
        intro H' G' v st rr ar'
        have stA : Step ([x] :: (xs.map (adOf ads) ++ ds.map fun _ => [])).flatten H G H' G' := (st2.wide fun _ z => nomatch z).trans st fun a ha => .inl ha
        cases a with
        | ow o => exact h.elim
        | t t =>
          cases t with
          | non =>
            cases as with
            | nil => exact h.elim
            | cons a0 as =>
              cases a0 with
              | t _ => exact h.elim
              | ow o =>
                have rv : v = .non := rr
                refine ⟨rv, ?_⟩
                have ar2 := ARep.cutF (by simp [lx]) ar'.2
                rw [lx] at ar2
                have R' := R.call pv stA hB ar2
                obtain ⟨p, e, ow⟩ := ar'.1
                refine h ads G' H' (.ref x) R' (s0.trans (R.callNxt stA hB)) ⟨p, [x], e, ow, fun b hb => ?_⟩
                rw [List.mem_singleton.mp hb]
                refine ⟨⟨?_, R.step.there x hx, fun j hj => ?_⟩, s0.there x hx⟩
                · cases e : G' x with
                  | none => rfl
                  | some u =>
                    rcases st.new x u e with y | y
                    · rw [gx] at y; cases y
                    · rw [upd_same] at y; cases y
                · obtain ⟨u, e⟩ := R.ownSome hj
                  rw [hx] at e; cases e
          | _ => exact h.elim
      | exc ex as =>
        simp only [qf] at h
        intro H' G' cls d st rx ar'
        cases as with
        | nil => exact h.elim
        | cons a0 as =>
          have stA : Step ([x] :: (xs.map (adOf ads) ++ ds.map fun _ => [])).flatten H G H' G' := (st2.wide fun _ z => nomatch z).trans st fun a ha => .inl ha
          have ar2 := ARep.cutF (by simp [lx]) ar'.2
          rw [lx] at ar2
          exact h ads G' H' cls d (R.call pv stA hB ar2) (s0.sub.trans stA.sub) rx
theorem make_imp {k : Nat} (hd : ∀ G, RepL c G ds dvs) {σ : L2.St} {H : Hp} {Q : VK} (h : TRof c r W (rMake k n F ds el) σ H Q) : tMakeS (c.C k) (spF c n F) dvs (WE W) (TAof c r W el) σ H Q := by
  obtain ⟨ads, G, env, R, h⟩ := h
  exact ⟨ads, G, env, R, Sat_mono (Sat_bind.mp h) (fun xs e1 h1 ads1 G1 H1 vs R1 s1 p1 x dx hx hdx ne => make_core R1 s1 p1 hd h1 x dx hx hdx ne) fun _ _ z => z⟩
end

/-! ### the rules -/
section
variable {X : Cx} {k : Nat} {f C : Addr} {fd : FuncData} {ps : List Str} {sp : Sp} {dvs : List V} {dw : List Value} {W : WX} {x m : Str} {p pos apos : Pos} {a o : Expr} {as : List Expr} {ta : TE} {t : TA}
theorem callS1 (F : FnG X.prog X.w X.K X.mg X.base k f fd ps sp) (hr : RoomG k X.A) (hg : Gl X x) (hm : X.mg x = some (.ref f)) (hk : PySem.W.keepIn X.K (.ref f) = true) (hb : Binds X.K fd ps dw) (hd : Vals dvs dw) (tk : Takes X W) (ha : PA X (a :: as) t)
    (hdb : (x == ("__debug__" : Str)) = false := by decide) (he : starEach (a :: as) X.env = (false, eval a X.env) :: starEach as X.env := by rfl) (hpl : (backTo pos (starEach as X.env)).any (·.1) = false := by rfl) : PE X (.Call (.Name x p) (a :: as) [] pos) (tCallSD sp dvs (WE W) t) := ⟨fun pn st σ Hh Qq J hq => by
  refine wpAny_Call_Name_kw (ld_glob J hg hm (PySem.W.callWith_K (h₀ := X.base) J.ok.mod.kin hk (thn (ha.run pos pn st σ Hh _ J hq) fun us s1 ⟨vs, H1, J1, rr, q⟩ => ⟨J1.kIn, ?_⟩) he hpl) hdb)
  exact runG F hb hd hr J1.ok.frames (passAt tk σ) J1 rr q⟩
theorem callS0 (F : FnG X.prog X.w X.K X.mg X.base k f fd ps sp) (hr : RoomG k X.A) (hg : Gl X x) (hm : X.mg x = some (.ref f)) (hk : PySem.W.keepIn X.K (.ref f) = true) (hb : Binds X.K fd ps dw) (hd : Vals dvs dw) (tk : Takes X W)
    (hdb : (x == ("__debug__" : Str)) = false := by decide) : PE X (.Call (.Name x p) [] [] pos) (tCallSD sp dvs (WE W) tNil) := ⟨fun pn st σ Hh Qq J hq =>
  wpAny_Call_Name_kw (ld_glob J hg hm (PySem.W.callWith_K0 J.kIn hk (runG (us := []) F hb hd hr J.ok.frames (passAt tk σ) J .nil hq)) hdb)⟩
theorem methS {pl : Sem Bool} (he : PE X o ta) (c : Cls X.K C) (hm : Meth X.K C m f) (F : FnG X.prog X.w X.K X.mg X.base k f fd ps sp) (hr : RoomG k X.A) (hb : Binds X.K fd ps dw) (hd : Vals dvs dw) (tk : Takes X W) (ha : PA X (a :: as) t)
    (hst : starEach (a :: as) X.env = (false, eval a X.env) :: starEach as X.env := by rfl) (hpl : (backTo pos (starEach as X.env)).any (·.1) = false := by rfl)
    (ht : eval (.Call (.Attribute o m apos) (a :: as) [] pos) X.env = (do let ov ← eval o X.env; standAt apos.atName; let (g, first) ← holding [ov] (getMethod ov m pl); callWith pos g first (backTo pos (starEach (a :: as) X.env)) (backToKw pos (keywordEach [] X.env))) := by rfl) :
    PE X (.Call (.Attribute o m apos) (a :: as) [] pos) (tMethS C m sp dvs (WE W) ta t) := ⟨fun pn st σ Hh Qq J hq => by
  refine PySem.W.methodCall_KW (pl := pl) (thn (he.run pn st σ Hh _ J hq) fun u s1 ⟨v, H1, J1, rv, b, dx, fs, ev, eb, l, q⟩ => ?_) ht
  subst ev
  obtain rfl : u = Value.ref b := rv
  refine getmeth_ok J1 eb c hm l (PySem.W.callWith_K (first := [.ref b]) (h₀ := X.base) J.ok.mod.kin hm.kp (thn (ha.run pos pn s1 σ H1 _ J1 q) fun us s2 ⟨vs, H2, J2, rr, q2⟩ => ⟨J2.kIn, ?_⟩) hst hpl)
  exact runG (us := .ref b :: us) (vs := .ref b :: vs) F hb hd hr J2.ok.frames (passAt tk σ) J2 (.cons rfl rr) q2⟩
theorem methS0 {pl : Sem Bool} (he : PE X o ta) (c : Cls X.K C) (hm : Meth X.K C m f) (F : FnG X.prog X.w X.K X.mg X.base k f fd ps sp) (hr : RoomG k X.A) (hb : Binds X.K fd ps dw) (hd : Vals dvs dw) (tk : Takes X W)
    (ht : eval (.Call (.Attribute o m apos) [] [] pos) X.env = (do let ov ← eval o X.env; standAt apos.atName; let (g, first) ← holding [ov] (getMethod ov m pl); callWith pos g first (backTo pos (starEach [] X.env)) (backToKw pos (keywordEach [] X.env))) := by rfl) :
    PE X (.Call (.Attribute o m apos) [] [] pos) (tMethS C m sp dvs (WE W) ta tNil) := ⟨fun pn st σ Hh Qq J hq => by
  refine PySem.W.methodCall_KW (pl := pl) (thn (he.run pn st σ Hh _ J hq) fun u s1 ⟨v, H1, J1, rv, b, dx, fs, ev, eb, l, q⟩ => ?_) ht
  subst ev
  obtain rfl : u = Value.ref b := rv
  refine getmeth_ok J1 eb c hm l (PySem.W.callWith_K0 (first := [.ref b]) J1.kIn hm.kp ?_)
  exact runG (us := [.ref b]) (vs := [.ref b]) F hb hd hr J1.ok.frames (passAt tk σ) J1 (.cons rfl .nil) q⟩
theorem makeRun {pn : List (Addr × Obj)} {σ : L2.St} {Hh : Hp} {st : Shared} {Qq : VK} {us : List Value} {vs : List V} {E : XK} (M : Mk X.K C f) (F : FnG X.prog X.w X.K X.mg X.base k f fd ps sp) (hr : RoomG (k + 1) X.A) (hb : Binds X.K fd ps dw) (hd : Vals dvs dw)
    (hx : PassesAt (L2.CX X.prog X.w) X σ E) (J : Inv X pn σ Hh st) (rr : Vals vs us) (h : ∀ y dx, Hh y = none → Hh dx = none → dx ≠ y → sp (.ref y :: (vs ++ dvs)) (upd (upd Hh dx (.own y)) y (.ins C dx [])) (fun v H2 => v = .non ∧ Qq (.ref y) H2) E) :
    wpAny (model X.prog X.w) X.A (call (.ref C) us) (EP X pn σ Qq) X.xe st := by
  have hq := h (st.heap.objs.size + 1) st.heap.objs.size (J.hok.fresh (Nat.le_succ _)) (J.hok.fresh (Nat.le_refl _)) (Nat.ne_of_lt (Nat.lt_succ_self _))
  have J2 := Inv.made (C := C) J
  have rr2 : Vals (V.ref (st.heap.objs.size + 1) :: (vs ++ dvs)) (Value.ref (st.heap.objs.size + 1) :: (us ++ dw)) := .cons rfl (rr.append hd)
  have hl : (Value.ref (st.heap.objs.size + 1) :: us ++ dw).length = ps.length := (rr2.length.symm.trans (F.len _ _ _ _ hq))
  have run := F.run _ X.stack _ _ ⟨Value.ref (st.heap.objs.size + 1) :: us, []⟩ _ _ _ E (hr.make C us []) (J2.env0.make C us []) (hb _ (Value.ref (st.heap.objs.size + 1) :: us) J2.kIn hl) rr2 hq
  refine wpAny_call (make_map (f := f) J.kIn M.makes M.init (beq_iff_eq.mp M.fn) (codeAny_mono run fun z s' hz => ?_))
  match z, hz with
  | .error e, hz => exact hx pn _ _ e s' J2 hz
  | .ok (.ret u), hz =>
    obtain ⟨v, H', J3, rv, ev, q3⟩ := J2.after hz
    subst ev
    exact ⟨rv, ⟨V.ref (st.heap.objs.size + 1), H', J3, rfl, q3⟩⟩
  | .ok .next, hz => exact hz.elim
  | .ok .brk, hz => exact hz.elim
  | .ok .cont, hz => exact hz.elim
theorem makeS (M : Mk X.K C f) (F : FnG X.prog X.w X.K X.mg X.base k f fd ps sp) (hr : RoomG (k + 1) X.A) (hg : Gl X x) (hm : X.mg x = some (.ref C)) (hb : Binds X.K fd ps dw) (hd : Vals dvs dw) (tk : Takes X W)
    (ha : PA X (a :: as) t) (hdb : (x == ("__debug__" : Str)) = false := by decide) (he : starEach (a :: as) X.env = (false, eval a X.env) :: starEach as X.env := by rfl) (hpl : (backTo pos (starEach as X.env)).any (·.1) = false := by rfl) :
    PE X (.Call (.Name x p) (a :: as) [] pos) (tMakeS C sp dvs (WE W) t) := ⟨fun pn st σ Hh Qq J hq => by
  refine wpAny_Call_Name_kw (ld_glob J hg hm (PySem.W.callWith_K (h₀ := X.base) J.ok.mod.kin M.kp (thn (ha.run pos pn st σ Hh _ J hq) fun us s1 ⟨vs, H1, J1, rr, q⟩ => ⟨J1.kIn, ?_⟩) he hpl) hdb)
  exact makeRun M F hr hb hd (passAt tk σ) J1 rr q⟩
theorem makeS0 (M : Mk X.K C f) (F : FnG X.prog X.w X.K X.mg X.base k f fd ps sp) (hr : RoomG (k + 1) X.A) (hg : Gl X x) (hm : X.mg x = some (.ref C)) (hb : Binds X.K fd ps dw) (hd : Vals dvs dw) (tk : Takes X W)
    (hdb : (x == ("__debug__" : Str)) = false := by decide) : PE X (.Call (.Name x p) [] [] pos) (tMakeS C sp dvs (WE W) tNil) := ⟨fun pn st σ Hh Qq J hq =>
  wpAny_Call_Name_kw (ld_glob J hg hm (PySem.W.callWith_K0 J.kIn M.kp (makeRun (us := []) M F hr hb hd (passAt tk σ) J .nil hq)) hdb)⟩
end
/-- the defaults that fill up -/
structure Fill (c : TC) (K : PySem.W.Frag) (fd : FuncData) (ps : List Str) (ds : List PV) : Prop where
  ex : ∃ (dvs : List V) (dw : List Value), Vals dvs dw ∧ Binds K fd ps dw ∧ ∀ G, RepL c G ds dvs
theorem Fill.all {c : TC} {K : PySem.W.Frag} {fd : FuncData} {ps : List Str} (h : Binds K fd ps []) : Fill c K fd ps [] := ⟨[], [], .nil, h, fun _ => rfl⟩
section
variable {X : Cx} {c : TC} {r : Ref} {W : WX} {F : FSem} {el : EvA} {ea : EvE} {n k kc : Nat} {ds : List PV} {f : Addr} {fd : FuncData} {ps : List Str} {x m : Str} {p pos apos : Pos} {a o : Expr} {as : List Expr}
theorem tr_call (hF : FnG X.prog X.w X.K X.mg X.base k f fd ps (spF c n F)) (hb : Fill c X.K fd ps ds) (hr : RoomG k X.A) (tk : Takes X W) (hg : Gl X x) (hm : X.mg x = some (.ref f)) (hk : PySem.W.keepIn X.K (.ref f) = true)
    (ha : PA X (a :: as) (TAof c r W el)) (hdb : (x == ("__debug__" : Str)) = false := by decide) (he : starEach (a :: as) X.env = (false, eval a X.env) :: starEach as X.env := by rfl) (hpl : (backTo pos (starEach as X.env)).any (·.1) = false := by rfl) :
    PE X (.Call (.Name x p) (a :: as) [] pos) (TRof c r W (rCall n F ds el)) := by
  obtain ⟨dvs, dw, h1, h2, h3⟩ := hb.ex
  exact PE.imp (callS1 hF hr hg hm hk h2 h1 tk ha hdb he hpl) fun σ Hh Q h => call_imp h3 h
theorem tr_call0 (hF : FnG X.prog X.w X.K X.mg X.base k f fd ps (spF c n F)) (hb : Fill c X.K fd ps ds) (hr : RoomG k X.A) (tk : Takes X W) (hg : Gl X x) (hm : X.mg x = some (.ref f)) (hk : PySem.W.keepIn X.K (.ref f) = true)
    (hdb : (x == ("__debug__" : Str)) = false := by decide) : PE X (.Call (.Name x p) [] [] pos) (TRof c r W (rCall n F ds aNil)) := by
  obtain ⟨dvs, dw, h1, h2, h3⟩ := hb.ex
  refine PE.imp (callS0 hF hr hg hm hk h2 h1 tk hdb) fun σ Hh Q h => ?_
  obtain ⟨ads, G, env, R, h⟩ := h
  exact call_core (xs := []) (vs := []) R (Nxt.refl _ _ _) rfl h3 h
theorem tr_meth {pl : Sem Bool} (he : PE X o (TEof c r W ea)) (cl : Cls X.K (c.C kc)) (hm : Meth X.K (c.C kc) m f) (hF : FnG X.prog X.w X.K X.mg X.base k f fd ps (spF c n F)) (hb : Fill c X.K fd ps ds) (hr : RoomG k X.A) (tk : Takes X W) (ha : PA X (a :: as) (TAof c r W el))
    (hst : starEach (a :: as) X.env = (false, eval a X.env) :: starEach as X.env := by rfl) (hpl : (backTo pos (starEach as X.env)).any (·.1) = false := by rfl)
    (ht : eval (.Call (.Attribute o m apos) (a :: as) [] pos) X.env = (do let ov ← eval o X.env; standAt apos.atName; let (g, first) ← holding [ov] (getMethod ov m pl); callWith pos g first (backTo pos (starEach (a :: as) X.env)) (backToKw pos (keywordEach [] X.env))) := by rfl) :
    PE X (.Call (.Attribute o m apos) (a :: as) [] pos) (TRof c r W (rMeth kc m n F ds ea el)) := by
  obtain ⟨dvs, dw, h1, h2, h3⟩ := hb.ex
  exact PE.imp (methS he cl hm hF hr h2 h1 tk ha hst hpl ht) fun σ Hh Q h => meth_imp h3 h
theorem tr_meth0 {pl : Sem Bool} (he : PE X o (TEof c r W ea)) (cl : Cls X.K (c.C kc)) (hm : Meth X.K (c.C kc) m f) (hF : FnG X.prog X.w X.K X.mg X.base k f fd ps (spF c n F)) (hb : Fill c X.K fd ps ds) (hr : RoomG k X.A) (tk : Takes X W)
    (ht : eval (.Call (.Attribute o m apos) [] [] pos) X.env = (do let ov ← eval o X.env; standAt apos.atName; let (g, first) ← holding [ov] (getMethod ov m pl); callWith pos g first (backTo pos (starEach [] X.env)) (backToKw pos (keywordEach [] X.env))) := by rfl) :
    PE X (.Call (.Attribute o m apos) [] [] pos) (TRof c r W (rMeth kc m n F ds ea aNil)) := by
  obtain ⟨dvs, dw, h1, h2, h3⟩ := hb.ex
  refine PE.imp (methS0 he cl hm hF hr h2 h1 tk ht) fun σ Hh Q h => ?_
  have z : tMethS (c.C kc) m (spF c n F) dvs (WE W) (TEof c r W ea) (TAof c r W aNil) σ Hh Q := meth_imp h3 h
  exact z.imp fun ads hz => hz.imp fun G hz => hz.imp fun env ⟨R, hz⟩ => ⟨R, Sat_mono hz (fun x e hx ads' G' H' v R' s' p' => by
    obtain ⟨b, dx, fs, e1, e2, e3, ads2, G2, env2, R2, z2⟩ := hx ads' G' H' v R' s' p'
    exact ⟨b, dx, fs, e1, e2, e3, z2 ads2 G2 H' [] R2 (Nxt.refl _ _ _) rfl⟩) fun _ _ q => q⟩
theorem tr_make (M : Mk X.K (c.C kc) f) (hF : FnG X.prog X.w X.K X.mg X.base k f fd ps (spF c n F)) (hb : Fill c X.K fd ps ds) (hr : RoomG (k + 1) X.A) (tk : Takes X W) (hg : Gl X x) (hm : X.mg x = some (.ref (c.C kc)))
    (ha : PA X (a :: as) (TAof c r W el)) (hdb : (x == ("__debug__" : Str)) = false := by decide) (he : starEach (a :: as) X.env = (false, eval a X.env) :: starEach as X.env := by rfl) (hpl : (backTo pos (starEach as X.env)).any (·.1) = false := by rfl) :
    PE X (.Call (.Name x p) (a :: as) [] pos) (TRof c r W (rMake kc n F ds el)) := by
  obtain ⟨dvs, dw, h1, h2, h3⟩ := hb.ex
  exact PE.imp (makeS M hF hr hg hm h2 h1 tk ha hdb he hpl) fun σ Hh Q h => make_imp h3 h
theorem tr_make0 (M : Mk X.K (c.C kc) f) (hF : FnG X.prog X.w X.K X.mg X.base k f fd ps (spF c n F)) (hb : Fill c X.K fd ps ds) (hr : RoomG (k + 1) X.A) (tk : Takes X W) (hg : Gl X x) (hm : X.mg x = some (.ref (c.C kc)))
    (hdb : (x == ("__debug__" : Str)) = false := by decide) : PE X (.Call (.Name x p) [] [] pos) (TRof c r W (rMake kc n F ds aNil)) := by
  obtain ⟨dvs, dw, h1, h2, h3⟩ := hb.ex
  refine PE.imp (makeS0 M hF hr hg hm h2 h1 tk hdb) fun σ Hh Q h => ?_
  obtain ⟨ads, G, env, R, h⟩ := h
  exact fun y dx hy hdx ne => make_core (xs := []) (vs := []) R (Nxt.refl _ _ _) rfl h3 h y dx hy hdx ne
end
end TreeL
end
section
/-! TL7: operations on trees: data of any depth, ==, in, arithmetic, comparisons. -/
namespace TreeL
open PySem PySem.Spec PyProof.Rows L2

/-! ### data -/
mutual
/-- data of depth at most n -/
def dat : Nat → PV → Bool
  | _, .non => true
  | _, .bl _ => true
  | _, .int _ => true
  | _, .str _ => true
  | n + 1, .lst xs => datL n xs
  | n + 1, .tup xs => datL n xs
  | _, _ => false
def datL : Nat → List PV → Bool
  | _, [] => true
  | n, x :: xs => dat n x && datL n xs
end
theorem datL_all {n : Nat} : ∀ {xs : List PV}, datL n xs = xs.all (dat n)
  | [] => by simp [datL]
  | x :: xs => by rw [datL, datL_all (xs := xs)]; rfl
mutual
def toD : PV → PyData
  | .non => .none
  | .bl b => .bool b
  | .int i => .int i
  | .str x => .str x
  | .lst xs => .list (toDs xs)
  | .tup xs => .tuple (toDs xs)
  | .ins _ _ => .none
  | .dct _ _ => .none
  | .scr _ => .none
  | .cls _ => .none
  | .slc _ _ => .none
def toDs : List PV → List PyData
  | [] => []
  | x :: xs => toD x :: toDs xs
end
mutual
/-- == of data -/
def peq : PV → PV → Bool
  | .non, .non => true
  | .bl a, .bl b => a == b
  | .bl a, .int j => (if a then 1 else 0) == j
  | .int i, .bl b => i == (if b then 1 else 0)
  | .int i, .int j => i == j
  | .str x, .str y => x == y
  | .lst xs, .lst ys => peqL xs ys
  | .tup xs, .tup ys => peqL xs ys
  | _, _ => false
def peqL : List PV → List PV → Bool
  | [], [] => true
  | x :: xs, y :: ys => peq x y && peqL xs ys
  | _, _ => false
end
theorem toDs_map : ∀ xs : List PV, toDs xs = xs.map toD
  | [] => by simp [toDs]
  | x :: xs => by rw [toDs, toDs_map xs]; rfl
section
variable {c : TC} {H : Hp}
mutual
theorem Rep.dp : ∀ {t : PV} {n : Nat} {v : V}, dat n t = true → Rep c H t v → Dp c.K H v (toD t) ∧ (toD t).canLay0 = true ∧ (toD t).depth ≤ n
  | .non, n, v, _, h => by
    simp only [Rep] at h
    subst h
    exact ⟨by rw [toD]; exact .non, by simp [toD, PyData.canLay0], by simp [toD, PyData.depth]⟩
  | .bl b, n, v, _, h => by
    simp only [Rep] at h
    subst h
    exact ⟨by rw [toD]; exact .bl b, by simp [toD, PyData.canLay0], by simp [toD, PyData.depth]⟩
  | .int i, n, v, _, h => by
    simp only [Rep] at h
    subst h
    exact ⟨by rw [toD]; exact .int i, by simp [toD, PyData.canLay0], by simp [toD, PyData.depth]⟩
  | .str x, n, v, _, h => by
    simp only [Rep] at h
    obtain ⟨rfl, hx⟩ := h
    exact ⟨by rw [toD]; exact .str x, by rw [toD, PyData.canLay0]; exact hx.2, by simp [toD, PyData.depth]⟩
  | .lst xs, 0, v, d, h => by simp [dat] at d
  | .lst xs, n + 1, v, d, h => by
    simp only [Rep] at h
    obtain ⟨p, vs, rfl, hp, rr⟩ := h
    rw [dat] at d
    obtain ⟨h1, h2, h3⟩ := RepL.dp d rr
    exact ⟨by rw [toD]; exact .lst (.inl (.inl hp)) h1, by rw [toD, PyData.canLay0]; exact h2, by rw [toD, PyData.depth]; omega⟩
  | .tup xs, 0, v, d, h => by simp [dat] at d
  | .tup xs, n + 1, v, d, h => by
    simp only [Rep] at h
    obtain ⟨p, vs, rfl, hp, rr⟩ := h
    rw [dat] at d
    obtain ⟨h1, h2, h3⟩ := RepL.dp d rr
    exact ⟨by rw [toD]; exact .tup hp h1, by rw [toD, PyData.canLay0]; exact h2, by rw [toD, PyData.depth]; omega⟩
  | .ins k fs, n, v, d, h => by cases n <;> simp [dat] at d
  | .dct t kvs, n, v, d, h => by cases n <;> simp [dat] at d
  | .scr _, n, v, d, h => by cases n <;> simp [dat] at d
  | .cls _, n, v, d, h => by cases n <;> simp [dat] at d
  | .slc _ _, n, v, d, h => by cases n <;> simp [dat] at d
theorem RepL.dp : ∀ {t : List PV} {n : Nat} {v : List V}, datL n t = true → RepL c H t v → DpAll c.K H v (toDs t) ∧ PyData.canLayAll0 (toDs t) = true ∧ PyData.depthAll (toDs t) ≤ n
  | [], n, v, _, h => by
    cases h
    exact ⟨by rw [toDs]; exact .nil, by simp [toDs, PyData.canLayAll0], by simp [toDs, PyData.depthAll]⟩
  | t :: ts, n, v, d, ⟨u, r, e, a, b⟩ => by
    subst e
    rw [datL, Bool.and_eq_true] at d
    obtain ⟨h1, h2, h3⟩ := Rep.dp d.1 a
    obtain ⟨k1, k2, k3⟩ := RepL.dp d.2 b
    refine ⟨by rw [toDs]; exact .cons h1 k1, by rw [toDs, PyData.canLayAll0, h2, k2]; rfl, ?_⟩
    rw [toDs, PyData.depthAll]
    exact Nat.max_le.mpr ⟨h3, k3⟩
end
theorem Rep.shape {t : PV} {v : V} (d : dat 64 t = true) (h : Rep c H t v) : Dp c.K H v (toD t) ∧ SeqAt.shaped (toD t) = true := by
  obtain ⟨h1, h2, h3⟩ := h.dp d
  exact ⟨h1, by rw [SeqAt.shaped, h2]; simpa using h3⟩
end
mutual
theorem peq_eqv : ∀ {a b : PV} {n m : Nat}, dat n a = true → dat m b = true → PyData.eqv (toD a) (toD b) = peq a b
  | .ins _ _, _, n, _, h, _ => by cases n <;> simp [dat] at h
  | .dct _ _, _, n, _, h, _ => by cases n <;> simp [dat] at h
  | .scr _, _, n, _, h, _ => by cases n <;> simp [dat] at h
  | .cls _, _, n, _, h, _ => by cases n <;> simp [dat] at h
  | .slc _ _, _, n, _, h, _ => by cases n <;> simp [dat] at h
  | a, .ins _ _, _, m, _, h => by cases m <;> simp [dat] at h
  | a, .dct _ _, _, m, _, h => by cases m <;> simp [dat] at h
  | a, .scr _, _, m, _, h => by cases m <;> simp [dat] at h
  | a, .cls _, _, m, _, h => by cases m <;> simp [dat] at h
  | a, .slc _ _, _, m, _, h => by cases m <;> simp [dat] at h
  | .non, b, n, m, _, _ => by cases b <;> simp_all [toD, PyData.eqv, peq, dat]
  | .bl _, b, n, m, _, _ => by cases b <;> simp_all [toD, PyData.eqv, peq, dat]
  | .int _, b, n, m, _, _ => by cases b <;> simp_all [toD, PyData.eqv, peq, dat]
  | .str _, b, n, m, _, _ => by cases b <;> simp_all [toD, PyData.eqv, peq, dat]
  | .lst xs, b, 0, m, h, _ => by simp [dat] at h
  | .tup xs, b, 0, m, h, _ => by simp [dat] at h
  | .lst xs, b, n + 1, m, h, h' => by
    cases b with
    | lst ys =>
      cases m with
      | zero => simp [dat] at h'
      | succ m =>
        rw [dat] at h h'
        rw [toD, toD, PyData.eqv, peq]
        exact peqL_eqv h h'
    | _ => simp_all [toD, PyData.eqv, peq, dat]
  | .tup xs, b, n + 1, m, h, h' => by
    cases b with
    | tup ys =>
      cases m with
      | zero => simp [dat] at h'
      | succ m =>
        rw [dat] at h h'
        rw [toD, toD, PyData.eqv, peq]
        exact peqL_eqv h h'
    | _ => simp_all [toD, PyData.eqv, peq, dat]
theorem peqL_eqv : ∀ {a b : List PV} {n m : Nat}, datL n a = true → datL m b = true → PyData.eqvAll (toDs a) (toDs b) = peqL a b
  | [], [], _, _, _, _ => by simp [toDs, PyData.eqvAll, peqL]
  | [], _ :: _, _, _, _, _ => by simp [toDs, PyData.eqvAll, peqL]
  | _ :: _, [], _, _, _, _ => by simp [toDs, PyData.eqvAll, peqL]
  | x :: xs, y :: ys, n, m, h, h' => by
    rw [datL, Bool.and_eq_true] at h h'
    rw [toDs, toDs, PyData.eqvAll, peqL, peq_eqv h.1 h'.1, peqL_eqv h.2 h'.2]
end
theorem peqL_toDs {xs : List PV} {d : PV} {n m : Nat} (h : datL n xs = true) (h' : dat m d = true) : ((toDs xs).any fun z => PyData.eqv z (toD d)) = xs.any fun z => peq z d := by
  induction xs with
  | nil => rfl
  | cons x xs ih =>
    rw [datL, Bool.and_eq_true] at h
    rw [toDs, List.any_cons, List.any_cons, peq_eqv h.1 h', ih h.2]
mutual
theorem peq_self : ∀ {a : PV} {n : Nat}, dat n a = true → peq a a = true
  | .non, _, _ => by simp [peq]
  | .bl _, _, _ => by simp [peq]
  | .int _, _, _ => by simp [peq]
  | .str _, _, _ => by simp [peq]
  | .lst xs, 0, h => by simp [dat] at h
  | .tup xs, 0, h => by simp [dat] at h
  | .lst xs, n + 1, h => by rw [dat] at h; rw [peq]; exact peqL_self h
  | .tup xs, n + 1, h => by rw [dat] at h; rw [peq]; exact peqL_self h
  | .ins _ _, n, h => by cases n <;> simp [dat] at h
  | .dct _ _, n, h => by cases n <;> simp [dat] at h
  | .scr _, n, h => by cases n <;> simp [dat] at h
  | .cls _, n, h => by cases n <;> simp [dat] at h
  | .slc _ _, n, h => by cases n <;> simp [dat] at h
theorem peqL_self : ∀ {a : List PV} {n : Nat}, datL n a = true → peqL a a = true
  | [], _, _ => by simp [peqL]
  | x :: xs, n, h => by
    rw [datL, Bool.and_eq_true] at h
    rw [peqL, peq_self h.1, peqL_self h.2]; rfl
end

/-! ### operations: a value, or a new list -/
def QRes (c : TC) (G H : Hp) : Arg → V → Hp → Hp → Prop
  | .t t, v, H', G' => Step [] H G H' G' ∧ Rep c G' t v
  | .ow (.lst ts), v, H', G' => G' = G ∧ ∃ p vs, v = .ref p ∧ H p = none ∧ H' = upd H p (.lst vs) ∧ RepL c G ts vs
  | .ow (.dct b kvs), v, H', G' => G' = G ∧ ∃ p ho, v = .ref p ∧ H p = none ∧ H' = upd H p ho ∧ OwRep c G H' p [p] (.dct b kvs)
  | .ow _, _, _, _ => False
def QOut (c : TC) (G H : Hp) (a : Arg) (Q : VK) : Prop := ∀ v H' G', QRes c G H a v H' G' → Q v H'
def OpQ (X : Cx) (c : TC) (g : Value → Value → Sem Value) (f : PV → PV → Option Arg) : Prop :=
  ∀ G H t1 t2 t v1 v2 Q, f t1 t2 = some t → Sub G H → WRep c G H t1 v1 → WRep c G H t2 v2 → QOut c G H t Q → rAny2 X g v1 v2 H Q
def CallQ (X : Cx) (c : TC) (g : Value) (f : List PV → Option Arg) : Prop :=
  ∀ G H ts t vs Q, f ts = some t → Sub G H → Paired (WRep c G H) ts vs → QOut c G H t Q → ∃ r, CallR X g r ∧ r vs H Q
def MtQ (X : Cx) (c : TC) (id : String) (f : PV → List PV → Option Arg) : Prop :=
  ∀ G H t0 ts t v0 vs Q, f t0 ts = some t → Sub G H → WRep c G H t0 v0 → Paired (WRep c G H) ts vs → QOut c G H t Q → ∃ r, MtR X id r ∧ r v0 vs H Q
@[simp] def looks (env : En) : List Vl → Option (List PV)
  | [] => some []
  | x :: xs => match look env x, looks env xs with
    | some t, some ts => some (t :: ts)
    | _, _ => none
@[simp] def rBin (f : PV → PV → Option Arg) (ea eb : EvE) : EvR := fun env => (ea env).bind fun a e1 => (eb e1).bind fun b e2 =>
  match look e2 a, look e2 b with
  | some x, some y => ofO (f x y) e2
  | _, _ => .bad
@[simp] def rBui (f : List PV → Option Arg) (el : EvA) : EvR := fun env => (el env).bind fun xs e => match looks e xs with
  | some ts => ofO (f ts) e
  | none => .bad
def tval (f : PV → PV → Option PV) : PV → PV → Option Arg := fun a b => (f a b).map Arg.t
theorem OpP.q {X : Cx} {c : TC} {g : Value → Value → Sem Value} {f : PV → PV → Option PV} (h : OpP X c g f) : OpQ X c g (tval f) := fun G H t1 t2 t v1 v2 Q e s w1 w2 q => by
  simp only [tval] at e
  cases z : f t1 t2 with
  | none => rw [z] at e; cases e
  | some u => rw [z] at e; cases e; exact h G H t1 t2 u v1 v2 Q z s w1 w2 fun v H' G' st p => q v H' G' ⟨st, p⟩
section
variable {X : Cx} {c : TC} {r : Ref} {W : WX} {a b o e : Expr} {as es : List Expr} {ea eb : EvE} {el : EvA} {pos p apos : Pos}
theorem QOut.res {ads0 ads : Nat → List Addr} {G0 H0 G H : Hp} {σ : L2.St} {env : En} {o : Arg} {Q : VK} (R : RS c r ads G H σ env) (s0 : Nxt ads0 G0 H0 ads G H)
    (h : ∀ ads' G' H' v, RS c r ads' G' H' σ env → Nxt ads0 G0 H0 ads' G' H' → ResNew c r ads' G' H0 H' o v → Q v H') : QOut c G H o Q := fun v H' G' q => by
  cases o with
  | t t => exact h ads G' H' v (R.next q.1) (s0.trans (Nxt.of q.1)) q.2
  | ow o =>
    cases o with
    | lst ts =>
      obtain ⟨rfl, p, vs, rfl, hp, rfl, rr⟩ := q
      exact h ads G' _ (.ref p) (R.lay hp) (s0.trans (Nxt.of (Step.allocO R.sub hp))) ⟨p, [p], rfl, ⟨rfl, vs, upd_same, rr⟩, fun b hb => by rw [List.mem_singleton.mp hb]; exact ⟨New.of R hp, s0.there p hp⟩⟩
    | dct k kvs =>
      obtain ⟨rfl, p, ho, rfl, hp, rfl, ow⟩ := q
      exact h ads G' _ (.ref p) (R.lay hp) (s0.trans (Nxt.of (Step.allocO R.sub hp))) ⟨p, [p], rfl, ow, fun b hb => by rw [List.mem_singleton.mp hb]; exact ⟨New.of R hp, s0.there p hp⟩⟩
    | ins _ _ => exact q.elim
    | boxD _ _ => exact q.elim
    | boxL _ _ => exact q.elim
    | lof _ _ => exact q.elim
theorem rbin_imp {g : Value → Value → Sem Value} {f : PV → PV → Option Arg} (ho : OpQ X c g f) {σ : L2.St} {H : Hp} {Q : VK} (h : TRof c r W (rBin f ea eb) σ H Q) : tOp (rAny2 X g) (TEof c r W ea) (TEof c r W eb) σ H Q := by
  obtain ⟨ads, G, env, R, h⟩ := h
  refine ⟨ads, G, env, R, Sat_mono (Sat_bind.mp h) (fun x e1 h1 ads1 G1 H1 v1 R1 s1 p1 => ?_) fun _ _ z => z⟩
  refine ⟨ads1, G1, e1, R1, Sat_mono (Sat_bind.mp h1) (fun y e2 h2 ads2 G2 H2 v2 R2 s2 p2 => ?_) fun x e z => z.weak s1.sub⟩
  cases q1 : look e2 x with
  | none => rw [q1] at h2; exact h2.elim
  | some t1 =>
    rw [q1] at h2
    cases q2 : look e2 y with
    | none => rw [q2] at h2; exact h2.elim
    | some t2 =>
      rw [q2] at h2
      obtain ⟨t, ht, h2⟩ := Sat_ofO.mp h2
      exact ho G2 H2 t1 t2 t v1 v2 Q ht R2.sub (look_rep R2 (p1.mono s2.sub) q1) (look_rep R2 p2 q2) (QOut.res R2 (s1.trans s2) h2)
theorem tr_bin {op : Operator} {f : PV → PV → Option Arg} (ho : OpQ X c (binaryOp op) f) (ha : PE X a (TEof c r W ea)) (hb : PE X b (TEof c r W eb)) : PE X (.BinOp a op b pos) (TRof c r W (rBin f ea eb)) :=
  PE.imp (pe_op opAny ha hb) fun _ _ _ h => rbin_imp ho h
theorem looks_rep {ads : Nat → List Addr} {G H : Hp} {σ : L2.St} {env : En} (R : RS c r ads G H σ env) : ∀ {xs : List Vl} {vs : List V} {ts : List PV}, VReps c σ G xs vs → looks env xs = some ts → Paired (WRep c G H) ts vs
  | [], _, _, h, e => by cases h; cases e; exact .nil
  | x :: xs, _, ts, ⟨v, u, e1, h, t⟩, e => by
    subst e1
    simp only [looks] at e
    cases q : look env x with
    | none => rw [q] at e; cases e
    | some a =>
      rw [q] at e
      cases q2 : looks env xs with
      | none => rw [q2] at e; cases e
      | some us =>
        rw [q2] at e
        cases e
        exact .cons (look_rep R h q) (looks_rep R t q2)
/-- f(e, ..), f a built-in function -/
theorem rbui_imp {g : Value} {f : List PV → Option Arg} (ho : CallQ X c g f) {σ : L2.St} {H : Hp} {Q : VK} (h : TRof c r W (rBui f el) σ H Q) : tCB (fun vs H Q => ∃ r, CallR X g r ∧ r vs H Q) (TAof c r W el) σ H Q := by
  obtain ⟨ads, G, env, R, h⟩ := h
  refine ⟨ads, G, env, R, Sat_mono (Sat_bind.mp h) (fun xs e1 h1 ads1 G1 H1 vs R1 s1 p1 => ?_) fun _ _ z => z⟩
  cases q : looks e1 xs with
  | none => rw [q] at h1; exact h1.elim
  | some ts =>
    rw [q] at h1
    obtain ⟨t, ht, h2⟩ := Sat_ofO.mp h1
    exact ho G1 H1 ts t vs Q ht R1.sub (looks_rep R1 p1 q) (QOut.res R1 s1 h2)
theorem callAny {g : Value} : CallR X g (fun vs H Q => ∃ r, CallR X g r ∧ r vs H Q) := fun pins s σ H xs us Q I rr ⟨r, h, q⟩ => h pins s σ H xs us Q I rr q
theorem tr_bui {x : Str} {id : String} {f : List PV → Option Arg} (ho : CallQ X c (.builtin id) f) (hg : Gl X x) (hm : X.mg x = none) (hv : bootBuiltins x = some (.builtin id)) (ha : PA X (a :: as) (TAof c r W el)) (hn : x ≠ "__name__" := by decide) (hdb : (x == ("__debug__" : Str)) = false := by decide)
    (he : starEach (a :: as) X.env = (false, eval a X.env) :: starEach as X.env := by rfl) (hpl : (backTo pos (starEach as X.env)).any (·.1) = false := by rfl) : PE X (.Call (.Name x p) (a :: as) [] pos) (TRof c r W (rBui f el)) :=
  PE.imp (pe_callB callAny hg hm hv ha hn hdb he hpl) fun _ _ _ h => rbui_imp ho h
theorem tr_buiT {x : Str} {T : String} {f : List PV → Option Arg} (ho : CallQ X c (.type T) f) (hg : Gl X x) (hm : X.mg x = none) (hv : bootBuiltins x = some (.type T)) (ha : PA X (a :: as) (TAof c r W el)) (hn : x ≠ "__name__" := by decide) (hdb : (x == ("__debug__" : Str)) = false := by decide)
    (he : starEach (a :: as) X.env = (false, eval a X.env) :: starEach as X.env := by rfl) (hpl : (backTo pos (starEach as X.env)).any (·.1) = false := by rfl) : PE X (.Call (.Name x p) (a :: as) [] pos) (TRof c r W (rBui f el)) :=
  PE.imp (pe_callTy callAny hg hm hv ha hn hdb he hpl) fun _ _ _ h => rbui_imp ho h
end
end TreeL
end
section
/-! TL8: the operations. -/
namespace TreeL
open PySem PySem.Spec PyProof.Rows L2

/-! ### texts that may be held -/
def cpOk (l : List Nat) : Prop := ∀ n ∈ l, n < 0x110000
theorem strG_iff {x : Str} : StrG x ↔ (TL.tl x).length ≤ sizeLine ∧ cpOk (TL.tl x) := by
  unfold StrG PyData.strOk cpOk
  rw [TL.len_tl, ← Array.all_toList, List.all_eq_true]
  simp
theorem cpOk.append {l m : List Nat} (h : cpOk l) (h' : cpOk m) : cpOk (l ++ m) := fun n hn => by
  rcases List.mem_append.mp hn with z | z
  · exact h n z
  · exact h' n z
theorem StrG.sub {x y : Str} (h : StrG x) (s : ∀ n ∈ TL.tl y, n ∈ TL.tl x) (l : (TL.tl y).length ≤ (TL.tl x).length) : StrG y := by
  rw [strG_iff] at h ⊢
  exact ⟨Nat.le_trans l h.1, fun n hn => h.2 n (s n hn)⟩
theorem StrG.add {x y : Str} (h : StrG x) (h' : StrG y) (l : x.length + y.length ≤ LIM) : StrG (x ++ y) := by
  rw [strG_iff] at h h' ⊢
  rw [TL.tl_append]
  refine ⟨?_, h.2.append h'.2⟩
  rw [List.length_append, ← TL.len_tl, ← TL.len_tl]
  exact lim_line l
theorem joinL_mem {S : List Nat} : ∀ {ps : List (List Nat)} {n : Nat}, n ∈ TL.joinL S ps → n ∈ S ∨ ∃ p ∈ ps, n ∈ p
  | [], n, h => by simp [TL.joinL] at h
  | [p], n, h => by
    simp only [TL.joinL] at h
    exact .inr ⟨p, List.mem_cons_self, h⟩
  | p :: q :: r, n, h => by
    simp only [TL.joinL, List.mem_append] at h
    rcases h with h | h | h
    · exact .inr ⟨p, List.mem_cons_self, h⟩
    · exact .inl h
    · rcases joinL_mem h with z | ⟨u, z1, z2⟩
      · exact .inl z
      · exact .inr ⟨u, List.mem_cons_of_mem _ z1, z2⟩
theorem joinL_has {S : List Nat} : ∀ {ps : List (List Nat)} {p : List Nat}, p ∈ ps → (∀ n ∈ p, n ∈ TL.joinL S ps) ∧ p.length ≤ (TL.joinL S ps).length
  | [q], p, h => by
    rw [List.mem_singleton.mp h]
    simp [TL.joinL]
  | q :: u :: r, p, h => by
    simp only [TL.joinL, List.mem_append, List.length_append]
    rcases List.mem_cons.mp h with z | z
    · subst z
      exact ⟨fun n hn => .inl hn, by omega⟩
    · obtain ⟨a, b⟩ := joinL_has (S := S) z
      exact ⟨fun n hn => .inr (.inr (a n hn)), by omega⟩
theorem joinL_len {S : List Nat} : ∀ {ps : List (List Nat)}, (TL.joinL S ps).length ≤ (ps.map List.length).sum + ps.length * S.length
  | [] => by simp [TL.joinL]
  | [p] => by simp [TL.joinL]
  | p :: q :: r => by
    have ih := joinL_len (S := S) (ps := q :: r)
    simp only [TL.joinL, List.length_append, List.map_cons, List.sum_cons, List.length_cons, Nat.succ_mul, Nat.add_mul, Nat.one_mul] at ih ⊢
    omega
theorem split_strG {x y p : Str} (h : StrG x) (hp : p ∈ Txt.split x y) : StrG p := by
  have e := PySem.StrLaws.join_split x y
  have e2 := TL.tl_join y (Txt.split x y)
  rw [e] at e2
  have m := joinL_has (S := TL.tl y) (List.mem_map_of_mem (f := TL.tl) hp)
  rw [← e2] at m
  exact h.sub m.1 m.2
theorem join_strG {a : Str} {ys : List Str} (h : StrG a) (hs : ∀ y ∈ ys, StrG y) (l : (ys.map (·.length)).sum + ys.length * a.length ≤ LIM) : StrG (Txt.join a ys) := by
  rw [TL.join_eq, strG_iff, TL.tl_join]
  rw [strG_iff] at h
  have q := joinL_len (S := TL.tl a) (ps := ys.map TL.tl)
  rw [List.map_map, List.length_map] at q
  have e1 : (List.length ∘ TL.tl) = fun y : Str => y.length := by funext y; exact (TL.len_tl y).symm
  rw [e1, ← TL.len_tl a] at q
  refine ⟨lim_line (Nat.le_trans q l), fun n hn => ?_⟩
  rcases joinL_mem hn with z | ⟨p, z1, z2⟩
  · exact h.2 n z
  · obtain ⟨y, hy, rfl⟩ := List.mem_map.mp z1
    exact (strG_iff.mp (hs y hy)).2 n z2
theorem strG_sub {z : Str} (h : StrG z) {l : List Nat} (hl : l.Sublist (TL.tl z)) : StrG ⟨l.toArray⟩ := h.sub (fun n hn => hl.subset (by simpa [TL.tl] using hn)) (by simpa [TL.tl] using hl.length_le)
theorem strG_small {z : Str} (h : ∀ n ∈ TL.tl z, n < 128) (l : z.length ≤ LIM) : StrG z := strG_iff.mpr ⟨by rw [← TL.len_tl]; exact lim_line l, fun n hn => by have := h n hn; omega⟩

/-! ### functions on trees -/
def eqP (a b : PV) : Option PV := if dat 64 a && dat 64 b then some (.bl (peq a b)) else none
def neP (a b : PV) : Option PV := if dat 64 a && dat 64 b then some (.bl (!peq a b)) else none
def addA : PV → PV → Option Arg
  | .int i, .int j => some (.t (.int (i + j)))
  | .str x, .str y => if x.length + y.length ≤ LIM then some (.t (.str (x ++ y))) else none
  | .lst xs, .lst ys => if xs.length + ys.length ≤ LIM then some (.ow (.lst (xs ++ ys))) else none
  | .tup xs, .tup ys => if xs.length + ys.length ≤ LIM then some (.t (.tup (xs ++ ys))) else none
  | _, _ => none
@[simp] def subP : PV → PV → Option PV
  | .int i, .int j => some (.int (i - j))
  | _, _ => none
def mulA : PV → PV → Option Arg
  | .int i, .int j => if i.natAbs.log2 + j.natAbs.log2 < 1000000 then some (.t (.int (i * j))) else none
  | .lst xs, .int k => if 0 ≤ k ∧ k ≤ 1000000 ∧ xs.length * k.toNat ≤ LIM then some (.ow (.lst (List.replicate k.toNat xs).flatten)) else none
  | _, _ => none
@[simp] def fdivP : PV → PV → Option PV
  | .int i, .int j => if 0 < j ∧ j.natAbs.log2 < 9000 then some (.int (i / j)) else none
  | _, _ => none
@[simp] def modP : PV → PV → Option PV
  | .int i, .int j => if 0 < j then some (.int (i % j)) else none
  | _, _ => none
def powP : PV → PV → Option PV
  | .int i, .int j => if 0 ≤ j ∧ j ≤ 1000000 ∧ i.natAbs < 2 ^ 64 then some (.int (i ^ j.toNat)) else none
  | _, _ => none
@[simp] def ltP : PV → PV → Option PV
  | .int i, .int j => some (.bl (decide (i < j)))
  | .str x, .str y => some (.bl (decide (x.cps.toList < y.cps.toList)))
  | _, _ => none
@[simp] def leP : PV → PV → Option PV
  | .int i, .int j => some (.bl (decide (i ≤ j)))
  | .str x, .str y => some (.bl (!decide (y.cps.toList < x.cps.toList)))
  | _, _ => none
@[simp] def gtP : PV → PV → Option PV
  | .int i, .int j => some (.bl (decide (j < i)))
  | .str x, .str y => some (.bl (decide (y.cps.toList < x.cps.toList)))
  | _, _ => none
@[simp] def geP : PV → PV → Option PV
  | .int i, .int j => some (.bl (decide (j ≤ i)))
  | .str x, .str y => some (.bl (!decide (x.cps.toList < y.cps.toList)))
  | _, _ => none
def inS (x y : Str) : Bool := match x.cps.toList with
  | [n] => decide (n ∈ y.cps.toList)
  | _ => !(Builtin.Str.occurrences y x 0 y.length 1).isEmpty
def inB : PV → PV → Option Bool
  | .str x, .str y => some (inS x y)
  | k, .lst xs => if dat 63 k && datL 63 xs then some (xs.any fun z => peq z k) else none
  | k, .tup xs => if dat 63 k && datL 63 xs then some (xs.any fun z => peq z k) else none
  | _, _ => none
def inP (a b : PV) : Option PV := (inB a b).map .bl
def ninP (a b : PV) : Option PV := (inB a b).map fun k => .bl (!k)
@[simp] def isNon : PV → Bool
  | .non => true
  | _ => false
@[simp] def isNP : PV → PV → Option PV
  | a, .non => some (.bl (isNon a))
  | _, _ => none
@[simp] def notNP : PV → PV → Option PV
  | a, .non => some (.bl (!isNon a))
  | _, _ => none
@[simp] def negP : PV → Option PV
  | .int i => some (.int (-i))
  | _ => none

section
variable {X : Cx} {c : TC}
theorem VOut.same {G H : Hp} {t : PV} {Q : VK} (h : VOut c G H t Q) (s : Sub G H) {v : V} (r : Rep c G t v) : Q v H := h v H G (Step.refl s) r
theorem VOut.flat {G H : Hp} {t : PV} {Q : VK} (h : VOut c G H t Q) (s : Sub G H) {v : V} (r : ∀ G, Rep c G t v) : Q v H := h v H G (Step.refl s) (r G)
theorem rep_bl {k : Bool} (G : Hp) : Rep c G (.bl k) (.bl k) := by simp [Rep]
theorem rep_int {k : Int} (G : Hp) : Rep c G (.int k) (.int k) := by simp [Rep]
theorem rep_non (G : Hp) : Rep c G .non .non := by simp [Rep]
theorem rep_str {x : Str} (h : StrG x) (G : Hp) : Rep c G (.str x) (.str x) := by simp only [Rep]; exact ⟨trivial, h⟩
theorem ite_some {α : Type} {p : Prop} [Decidable p] {x y : α} (h : (if p then some x else none) = some y) : p ∧ x = y := by
  by_cases hp : p
  · rw [if_pos hp] at h; exact ⟨hp, by cases h; rfl⟩
  · rw [if_neg hp] at h; cases h
theorem op_eqP (hK : X.K = c.K) (hu : X.A.units + 64 < cLine) : OpP X c (compareOp .Eq) eqP := fun G H t1 t2 t v1 v2 Q e s w1 w2 q => by
  obtain ⟨d, rfl⟩ := ite_some e
  rw [Bool.and_eq_true] at d
  obtain ⟨a1, a2⟩ := (w1.rep s).shape d.1
  obtain ⟨b1, b2⟩ := (w2.rep s).shape d.2
  refine ⟨_, op_eqD hu, toD t1, toD t2, by rw [hK]; exact a1, by rw [hK]; exact b1, a2, b2, ?_⟩
  rw [peq_eqv d.1 d.2]
  exact q.flat s rep_bl
theorem op_neP (hK : X.K = c.K) (hu : X.A.units + 64 < cLine) : OpP X c (compareOp .NotEq) neP := fun G H t1 t2 t v1 v2 Q e s w1 w2 q => by
  obtain ⟨d, rfl⟩ := ite_some e
  rw [Bool.and_eq_true] at d
  obtain ⟨a1, a2⟩ := (w1.rep s).shape d.1
  obtain ⟨b1, b2⟩ := (w2.rep s).shape d.2
  refine ⟨_, op_neD hu, toD t1, toD t2, by rw [hK]; exact a1, by rw [hK]; exact b1, a2, b2, ?_⟩
  rw [peq_eqv d.1 d.2]
  exact q.flat s rep_bl
theorem QOut.t {G H : Hp} {t : PV} {Q : VK} (h : QOut c G H (.t t) Q) : VOut c G H t Q := fun v H' G' s r => h v H' G' ⟨s, r⟩
theorem QOut.list {G H : Hp} {ts : List PV} {vs : List V} {Q : VK} (h : QOut c G H (.ow (.lst ts)) Q) (r : RepL c G ts vs) : ∀ p, H p = none → Q (.ref p) (upd H p (.lst vs)) := fun p hp => h (.ref p) _ G ⟨rfl, p, vs, rfl, hp, rfl, r⟩
theorem VOut.tup {G H : Hp} {ts : List PV} {vs : List V} {Q : VK} (h : VOut c G H (.tup ts) Q) (s : Sub G H) (r : RepL c G ts vs) : ∀ p, H p = none → Q (.ref p) (upd H p (.tup vs)) := fun p hp => by
  have st := Step.alloc (o := .tup vs) s hp
  refine h _ _ _ st ?_
  simp only [Rep]
  exact ⟨p, vs, rfl, .inl (.inl upd_same), r.mono st.sub⟩
theorem op_addA (hK : X.K = c.K) : OpQ X c (binaryOp .Add) addA := fun G H t1 t2 t v1 v2 Q e s w1 w2 q => by
  unfold addA at e
  split at e
  · cases w1; cases w2; cases e
    exact ⟨_, op_add, _, _, rfl, rfl, q.t.flat s rep_int⟩
  · obtain ⟨hl, rfl⟩ := ite_some e
    obtain ⟨rfl, g1⟩ := w1
    obtain ⟨rfl, g2⟩ := w2
    exact ⟨_, op_add_str, _, _, rfl, rfl, lim_line hl, q.t.flat s (rep_str (g1.add g2 hl))⟩
  · obtain ⟨hl, rfl⟩ := ite_some e
    obtain ⟨p1, vs1, rfl, h1, r1⟩ := w1
    obtain ⟨p2, vs2, rfl, h2, r2⟩ := w2
    exact ⟨_, op_cat, p1, p2, vs1, vs2, rfl, rfl, h1, h2, by rw [r1.length, r2.length]; exact lim_line hl, q.list (r1.append r2)⟩
  · obtain ⟨hl, rfl⟩ := ite_some e
    obtain ⟨p1, vs1, rfl, h1, r1⟩ := w1
    obtain ⟨p2, vs2, rfl, h2, r2⟩ := w2
    refine ⟨_, op_catA, p1, p2, vs1, vs2, rfl, rfl, by rw [hK]; exact s.sqT h1, by rw [hK]; exact s.sqT h2, by rw [r1.length, r2.length]; exact lim_line hl, fun z => q.t.same s ?_, fun _ z => q.t.same s ?_, fun _ _ => q.t.tup s (r1.append r2)⟩
    · simp only [Rep]
      refine ⟨p2, vs2, rfl, h2, ?_⟩
      have e := r1.append r2
      rw [z, List.nil_append] at e
      exact e
    · simp only [Rep]
      refine ⟨p1, vs1, rfl, h1, ?_⟩
      have e := r1.append r2
      rw [z, List.append_nil] at e
      exact e
  · cases e
theorem op_subP : OpP X c (binaryOp .Sub) subP := fun G H t1 t2 t v1 v2 Q e s w1 w2 q => by
  unfold subP at e
  split at e
  · cases w1; cases w2; cases e
    exact ⟨_, op_sub, _, _, rfl, rfl, q.flat s rep_int⟩
  · cases e
theorem op_mulA : OpQ X c (binaryOp .Mult) mulA := fun G H t1 t2 t v1 v2 Q e s w1 w2 q => by
  unfold mulA at e
  split at e
  · obtain ⟨hl, rfl⟩ := ite_some e
    cases w1; cases w2
    exact ⟨_, op_mulW, _, _, rfl, rfl, hl, q.t.flat s rep_int⟩
  · obtain ⟨hl, rfl⟩ := ite_some e
    obtain ⟨p1, vs1, rfl, h1, r1⟩ := w1
    cases w2
    have rr : ∀ n : Nat, ∀ {xs : List PV} {vs : List V}, RepL c G xs vs → RepL c G (List.replicate n xs).flatten (List.replicate n vs).flatten := fun n => by
      induction n with
      | zero => intro xs vs _; exact RepL.nil
      | succ n ih => intro xs vs r; rw [List.replicate_succ, List.replicate_succ]; exact r.append (ih r)
    exact ⟨_, op_rep, p1, _, vs1, rfl, rfl, h1, by omega, by omega, by rw [r1.length]; exact lim_line hl.2.2, q.list (rr _ r1)⟩
  · cases e
theorem op_fdivP : OpP X c (binaryOp .FloorDiv) fdivP := fun G H t1 t2 t v1 v2 Q e s w1 w2 q => by
  unfold fdivP at e
  split at e
  · obtain ⟨hl, rfl⟩ := ite_some e
    cases w1; cases w2
    exact ⟨_, op_fdivW, _, _, rfl, rfl, hl, q.flat s rep_int⟩
  · cases e
theorem op_modP : OpP X c (binaryOp .Mod) modP := fun G H t1 t2 t v1 v2 Q e s w1 w2 q => by
  unfold modP at e
  split at e
  · obtain ⟨hl, rfl⟩ := ite_some e
    cases w1; cases w2
    exact ⟨_, op_mod, _, _, rfl, rfl, hl, q.flat s rep_int⟩
  · cases e
theorem op_powP : OpP X c (binaryOp .Pow) powP := fun G H t1 t2 t v1 v2 Q e s w1 w2 q => by
  unfold powP at e
  split at e
  · obtain ⟨hl, rfl⟩ := ite_some e
    cases w1; cases w2
    exact ⟨_, op_pow, _, _, rfl, rfl, hl, q.flat s rep_int⟩
  · cases e
theorem op_ltP : OpP X c (compareOp .Lt) ltP := fun G H t1 t2 t v1 v2 Q e s w1 w2 q => by
  unfold ltP at e
  split at e
  · cases w1; cases w2; cases e
    exact ⟨_, op_lt, _, _, rfl, rfl, q.flat s rep_bl⟩
  · obtain ⟨rfl, g1⟩ := w1
    obtain ⟨rfl, g2⟩ := w2
    cases e
    exact ⟨_, op_lt_str, _, _, rfl, rfl, q.flat s rep_bl⟩
  · cases e
theorem op_leP : OpP X c (compareOp .LtE) leP := fun G H t1 t2 t v1 v2 Q e s w1 w2 q => by
  unfold leP at e
  split at e
  · cases w1; cases w2; cases e
    exact ⟨_, op_le, _, _, rfl, rfl, q.flat s rep_bl⟩
  · obtain ⟨rfl, g1⟩ := w1
    obtain ⟨rfl, g2⟩ := w2
    cases e
    exact ⟨_, op_le_str, _, _, rfl, rfl, q.flat s rep_bl⟩
  · cases e
theorem op_gtP : OpP X c (compareOp .Gt) gtP := fun G H t1 t2 t v1 v2 Q e s w1 w2 q => by
  unfold gtP at e
  split at e
  · cases w1; cases w2; cases e
    exact ⟨_, op_gt, _, _, rfl, rfl, q.flat s rep_bl⟩
  · obtain ⟨rfl, g1⟩ := w1
    obtain ⟨rfl, g2⟩ := w2
    cases e
    exact ⟨_, op_gt_str, _, _, rfl, rfl, q.flat s rep_bl⟩
  · cases e
theorem op_geP : OpP X c (compareOp .GtE) geP := fun G H t1 t2 t v1 v2 Q e s w1 w2 q => by
  unfold geP at e
  split at e
  · cases w1; cases w2; cases e
    exact ⟨_, op_ge, _, _, rfl, rfl, q.flat s rep_bl⟩
  · obtain ⟨rfl, g1⟩ := w1
    obtain ⟨rfl, g2⟩ := w2
    cases e
    exact ⟨_, op_ge_str, _, _, rfl, rfl, q.flat s rep_bl⟩
  · cases e
theorem one_sign {x : Str} {n : Nat} (h : x.cps.toList = [n]) : x = ⟨#[n]⟩ := TL.ext_tl h
/-- x in a tuple of data of any depth -/
def rInT (K : PySem.W.Frag) (neg : Bool) : R2 := fun x y H Q => ∃ d ds, Dp K H x d ∧ Dp K H y (.tuple ds) ∧ SeqAt.shaped d = true ∧ SeqAt.shaped (.tuple ds) = true ∧ Q (.bl (if neg then !(ds.any fun z => PyData.eqv z d) else ds.any fun z => PyData.eqv z d)) H
theorem op_inT (hu : X.A.units + 65 < cLine) : OpR X (compareOp .In) (rInT X.K false) := fun pins st σ H x y v u Q I rx ry ⟨d, ds, hd, he, sd, se, q⟩ => by
  obtain ⟨as, r1⟩ := Dp.reads I d x v hd rx
  obtain ⟨bs, r2⟩ := Dp.reads I (.tuple ds) y u he ry
  exact SeqAt.in_tuple_reads r2 r1 (SeqAt.canLay_of_shaped se) (SeqAt.canLay_of_shaped sd) (room_in_shaped sd hu) ⟨.bl _, H, I, rfl, q⟩
theorem op_notInT (hu : X.A.units + 65 < cLine) : OpR X (compareOp .NotIn) (rInT X.K true) := fun pins st σ H x y v u Q I rx ry ⟨d, ds, hd, he, sd, se, q⟩ => by
  obtain ⟨as, r1⟩ := Dp.reads I d x v hd rx
  obtain ⟨bs, r2⟩ := Dp.reads I (.tuple ds) y u he ry
  exact SeqAt.notIn_tuple_reads r2 r1 (SeqAt.canLay_of_shaped se) (SeqAt.canLay_of_shaped sd) (room_in_shaped sd hu) ⟨.bl _, H, I, rfl, q⟩
theorem dat_mono : ∀ {n m : Nat} {t : PV}, n ≤ m → dat n t = true → dat m t = true := by
  have key : ∀ n : Nat, (∀ m t, n ≤ m → dat n t = true → dat m t = true) := fun n => by
    induction n with
    | zero => intro m t _ h; cases t <;> cases m <;> simp_all [dat]
    | succ n ih =>
      intro m t hm h
      cases m with
      | zero => omega
      | succ m =>
        have hl : ∀ xs : List PV, datL n xs = true → datL m xs = true := fun xs => by
          induction xs with
          | nil => intro _; simp [datL]
          | cons x xs ihx =>
            intro hx
            rw [datL, Bool.and_eq_true] at hx ⊢
            exact ⟨ih m x (by omega) hx.1, ihx hx.2⟩
        cases t with
        | lst xs => rw [dat] at h ⊢; exact hl xs h
        | tup xs => rw [dat] at h ⊢; exact hl xs h
        | ins _ _ => simp [dat] at h
        | dct _ _ => simp [dat] at h
        | scr _ => simp [dat] at h
        | cls _ => simp [dat] at h
        | slc _ _ => simp [dat] at h
        | _ => simp [dat]
  exact fun {n m t} h1 h2 => key n m t h1 h2
theorem in_seq_fact {G H : Hp} {t1 : PV} {xs : List PV} {v1 : V} {b : Bool} (s : Sub G H) (e : (if dat 63 t1 && datL 63 xs then some (xs.any fun z => peq z t1) else none) = some b) (w1 : WRep c G H t1 v1) :
    Dp c.K H v1 (toD t1) ∧ SeqAt.shaped (toD t1) = true ∧ datL 63 xs = true ∧ b = ((toDs xs).any fun z => PyData.eqv z (toD t1)) := by
  obtain ⟨d, rfl⟩ := ite_some e
  rw [Bool.and_eq_true] at d
  obtain ⟨a1, a2⟩ := (w1.rep s).shape (dat_mono (by omega) d.1)
  exact ⟨a1, a2, d.2, (peqL_toDs d.2 d.1).symm⟩
theorem op_inP (hK : X.K = c.K) (hu : X.A.units + 65 < cLine) : OpP X c (compareOp .In) inP := fun G H t1 t2 t v1 v2 Q e s w1 w2 q => by
  unfold inP at e
  cases qb : inB t1 t2 with
  | none => rw [qb] at e; cases e
  | some b =>
    rw [qb] at e
    cases e
    unfold inB at qb
    split at qb
    · obtain ⟨rfl, g1⟩ := w1
      obtain ⟨rfl, g2⟩ := w2
      rename_i x y
      cases qb
      unfold inS at q
      split at q
      · rename_i n hn
        exact ⟨_, op_in_sign, n, y, by rw [one_sign hn], rfl, q.flat s rep_bl⟩
      · exact ⟨_, op_in_str, _, _, rfl, rfl, q.flat s rep_bl⟩
    · rename_i k xs
      obtain ⟨a1, a2, d, rfl⟩ := in_seq_fact s qb w1
      obtain ⟨b1, b2⟩ := (w2.rep s).shape (t := .lst xs) (by rw [dat]; exact d)
      rw [toD] at b1 b2
      exact ⟨_, op_inD hu, toD t1, toDs xs, by rw [hK]; exact a1, by rw [hK]; exact b1, a2, b2, q.flat s rep_bl⟩
    · rename_i k xs
      obtain ⟨a1, a2, d, rfl⟩ := in_seq_fact s qb w1
      obtain ⟨b1, b2⟩ := (w2.rep s).shape (t := .tup xs) (by rw [dat]; exact d)
      rw [toD] at b1 b2
      exact ⟨_, op_inT hu, toD t1, toDs xs, by rw [hK]; exact a1, by rw [hK]; exact b1, a2, b2, q.flat s rep_bl⟩
    · cases qb
theorem op_ninP (hK : X.K = c.K) (hu : X.A.units + 65 < cLine) : OpP X c (compareOp .NotIn) ninP := fun G H t1 t2 t v1 v2 Q e s w1 w2 q => by
  unfold ninP at e
  cases qb : inB t1 t2 with
  | none => rw [qb] at e; cases e
  | some b =>
    rw [qb] at e
    cases e
    unfold inB at qb
    split at qb
    · obtain ⟨rfl, g1⟩ := w1
      obtain ⟨rfl, g2⟩ := w2
      rename_i x y
      cases qb
      unfold inS at q
      split at q
      · rename_i n hn
        exact ⟨_, op_notIn_sign, n, y, by rw [one_sign hn], rfl, q.flat s rep_bl⟩
      · exact ⟨_, op_notIn_str, _, _, rfl, rfl, q.flat s rep_bl⟩
    · rename_i k xs
      obtain ⟨a1, a2, d, rfl⟩ := in_seq_fact s qb w1
      obtain ⟨b1, b2⟩ := (w2.rep s).shape (t := .lst xs) (by rw [dat]; exact d)
      rw [toD] at b1 b2
      exact ⟨_, op_notInD hu, toD t1, toDs xs, by rw [hK]; exact a1, by rw [hK]; exact b1, a2, b2, q.flat s rep_bl⟩
    · rename_i k xs
      obtain ⟨a1, a2, d, rfl⟩ := in_seq_fact s qb w1
      obtain ⟨b1, b2⟩ := (w2.rep s).shape (t := .tup xs) (by rw [dat]; exact d)
      rw [toD] at b1 b2
      exact ⟨_, op_notInT hu, toD t1, toDs xs, by rw [hK]; exact a1, by rw [hK]; exact b1, a2, b2, q.flat s rep_bl⟩
    · cases qb
theorem isNon_rep {G H : Hp} {t : PV} {v : V} (w : WRep c G H t v) : decide (v = .non) = isNon t := by
  cases t with
  | non => cases w; rfl
  | bl _ => cases w; rfl
  | int _ => cases w; rfl
  | str _ => obtain ⟨rfl, _⟩ := w; rfl
  | lst _ => obtain ⟨p, vs, rfl, _⟩ := w; rfl
  | tup _ => obtain ⟨p, vs, rfl, _⟩ := w; rfl
  | ins _ _ => obtain ⟨p, dx, gs, rfl, _⟩ := w; rfl
  | dct _ _ => obtain ⟨p, rfl, _⟩ := w; rfl
  | scr _ => obtain ⟨p, rfl, _⟩ := w; rfl
  | cls _ => cases w; rfl
  | slc _ _ => obtain ⟨p, vl, vu, rfl, _⟩ := w; rfl
theorem op_isNP : OpP X c (compareOp .Is) isNP := fun G H t1 t2 t v1 v2 Q e s w1 w2 q => by
  unfold isNP at e
  split at e
  · cases w2
    cases e
    exact ⟨_, op_isN, rfl, by rw [isNon_rep w1]; exact q.flat s rep_bl⟩
  · cases e
theorem op_notNP : OpP X c (compareOp .IsNot) notNP := fun G H t1 t2 t v1 v2 Q e s w1 w2 q => by
  unfold notNP at e
  split at e
  · cases w2
    cases e
    exact ⟨_, op_notN, rfl, by rw [isNon_rep w1]; exact q.flat s rep_bl⟩
  · cases e
theorem un_negP : UnP X c (unaryOp .USub) negP := fun G H t1 t v1 Q e s w1 q => by
  unfold negP at e
  split at e
  · cases w1; cases e
    exact ⟨_, un_neg, _, rfl, q.flat s rep_int⟩
  · cases e
end

/-! ### built-in functions -/
def lenF : List PV → Option Arg
  | [.lst xs] => some (.t (.int xs.length))
  | [.tup xs] => some (.t (.int xs.length))
  | [.str x] => some (.t (.int x.length))
  | [.scr ns] => some (.t (.int ns.length))
  | _ => none
def listF : List PV → Option Arg
  | [.lst xs] => some (.ow (.lst xs))
  | [.tup xs] => some (.ow (.lst xs))
  | _ => none
def tupleF : List PV → Option Arg
  | [.lst xs] => some (.t (.tup xs))
  | [.tup xs] => some (.t (.tup xs))
  | _ => none
def intF : List PV → Option Arg
  | [.int i] => some (.t (.int i))
  | [.bl k] => some (.t (.int (if k then 1 else 0)))
  | [.str a] => if a.length ≤ 640 then (PySem.intText? a).map fun n => .t (.int n) else none
  | _ => none
def boolF : List PV → Option Arg
  | [.int i] => some (.t (.bl (i != 0)))
  | [.bl k] => some (.t (.bl k))
  | _ => none
def strF : List PV → Option Arg
  | [.int i] => if 0 ≤ i ∧ i < 10 ^ 100 then some (.t (.str (Str.ofString (toString i)))) else none
  | [.str a] => some (.t (.str a))
  | _ => none
def absF : List PV → Option Arg
  | [.int i] => some (.t (.int (if i < 0 then -i else i)))
  | _ => none
def maxF : List PV → Option Arg
  | [.int i, .int j] => some (.t (.int (if j > i then j else i)))
  | _ => none
def minF : List PV → Option Arg
  | [.int i, .int j] => some (.t (.int (if j < i then j else i)))
  | _ => none
def boolsP : List PV → Option (List Bool)
  | [] => some []
  | .bl b :: r => (boolsP r).map (b :: ·)
  | _ => none
def strsP : List PV → Option (List Str)
  | [] => some []
  | .str b :: r => (strsP r).map (b :: ·)
  | _ => none
def intsP : List PV → Option (List Int)
  | [] => some []
  | .int b :: r => (intsP r).map (b :: ·)
  | _ => none
def allF : List PV → Option Arg
  | [.lst xs] => (boolsP xs).map fun bs => .t (.bl (bs.all id))
  | _ => none
def anyF : List PV → Option Arg
  | [.lst xs] => (boolsP xs).map fun bs => .t (.bl (bs.any id))
  | _ => none
def sumF : List PV → Option Arg
  | [.lst xs] => (intsP xs).map fun bs => .t (.int bs.sum)
  | _ => none
section
variable {X : Cx} {c : TC}
theorem bools_rep {G : Hp} : ∀ {ts : List PV} {vs : List V} {bs : List Bool}, RepL c G ts vs → boolsP ts = some bs → vs = bs.map V.bl
  | [], _, _, h, e => by cases h; cases e; rfl
  | .bl b :: ts, _, bs, ⟨v, r, e1, h, t⟩, e => by
    subst e1
    simp only [boolsP] at e
    cases q : boolsP ts with
    | none => rw [q] at e; cases e
    | some us =>
      rw [q] at e
      cases e
      simp only [Rep] at h
      rw [h, bools_rep t q]
      rfl
  | .non :: _, _, _, _, e => by cases e
  | .int _ :: _, _, _, _, e => by cases e
  | .str _ :: _, _, _, _, e => by cases e
  | .lst _ :: _, _, _, _, e => by cases e
  | .tup _ :: _, _, _, _, e => by cases e
  | .ins _ _ :: _, _, _, _, e => by cases e
  | .dct _ _ :: _, _, _, _, e => by cases e
  | .scr _ :: _, _, _, _, e => by cases e
  | .cls _ :: _, _, _, _, e => by cases e
  | .slc _ _ :: _, _, _, _, e => by cases e
theorem ints_rep {G : Hp} : ∀ {ts : List PV} {vs : List V} {bs : List Int}, RepL c G ts vs → intsP ts = some bs → vs = bs.map V.int
  | [], _, _, h, e => by cases h; cases e; rfl
  | .int b :: ts, _, bs, ⟨v, r, e1, h, t⟩, e => by
    subst e1
    simp only [intsP] at e
    cases q : intsP ts with
    | none => rw [q] at e; cases e
    | some us =>
      rw [q] at e
      cases e
      simp only [Rep] at h
      rw [h, ints_rep t q]
      rfl
  | .non :: _, _, _, _, e => by cases e
  | .bl _ :: _, _, _, _, e => by cases e
  | .str _ :: _, _, _, _, e => by cases e
  | .lst _ :: _, _, _, _, e => by cases e
  | .tup _ :: _, _, _, _, e => by cases e
  | .ins _ _ :: _, _, _, _, e => by cases e
  | .dct _ _ :: _, _, _, _, e => by cases e
  | .scr _ :: _, _, _, _, e => by cases e
  | .cls _ :: _, _, _, _, e => by cases e
  | .slc _ _ :: _, _, _, _, e => by cases e
theorem strs_rep {G : Hp} : ∀ {ts : List PV} {vs : List V} {bs : List Str}, RepL c G ts vs → strsP ts = some bs → vs = bs.map V.str ∧ ∀ y ∈ bs, StrG y
  | [], _, _, h, e => by cases h; cases e; exact ⟨rfl, fun _ z => nomatch z⟩
  | .str b :: ts, _, bs, ⟨v, r, e1, h, t⟩, e => by
    subst e1
    simp only [strsP] at e
    cases q : strsP ts with
    | none => rw [q] at e; cases e
    | some us =>
      rw [q] at e
      cases e
      simp only [Rep] at h
      obtain ⟨z1, z2⟩ := strs_rep t q
      refine ⟨by rw [h.1, z1]; rfl, fun y hy => ?_⟩
      rcases List.mem_cons.mp hy with w | w
      · rw [w]; exact h.2
      · exact z2 y w
  | .non :: _, _, _, _, e => by cases e
  | .bl _ :: _, _, _, _, e => by cases e
  | .int _ :: _, _, _, _, e => by cases e
  | .lst _ :: _, _, _, _, e => by cases e
  | .tup _ :: _, _, _, _, e => by cases e
  | .ins _ _ :: _, _, _, _, e => by cases e
  | .dct _ _ :: _, _, _, _, e => by cases e
  | .scr _ :: _, _, _, _, e => by cases e
  | .cls _ :: _, _, _, _, e => by cases e
  | .slc _ _ :: _, _, _, _, e => by cases e
theorem pair1 {G H : Hp} {a : PV} {vs : List V} (p : Paired (WRep c G H) [a] vs) : ∃ v, vs = [v] ∧ WRep c G H a v := by
  cases p with
  | cons h t => cases t; exact ⟨_, rfl, h⟩
theorem pair2 {G H : Hp} {a b : PV} {vs : List V} (p : Paired (WRep c G H) [a, b] vs) : ∃ v u, vs = [v, u] ∧ WRep c G H a v ∧ WRep c G H b u := by
  cases p with
  | cons h t =>
    obtain ⟨u, rfl, h2⟩ := pair1 t
    exact ⟨_, _, rfl, h, h2⟩
theorem bu_len (hK : X.K = c.K) : CallQ X c (.builtin "len") lenF := fun G H ts t vs Q e s p q => by
  unfold lenF at e
  split at e
  · obtain ⟨v, rfl, a, ws, rfl, hx, rr⟩ := pair1 p
    cases e
    exact ⟨_, call_len_seq, a, ws, rfl, .inl (.inl (.inl hx)), by rw [rr.length]; exact q.t.flat s rep_int⟩
  · obtain ⟨v, rfl, a, ws, rfl, hx, rr⟩ := pair1 p
    cases e
    exact ⟨_, call_len_seq, a, ws, rfl, .inr (by rw [hK]; exact s.sqT hx), by rw [rr.length]; exact q.t.flat s rep_int⟩
  · obtain ⟨v, rfl, rfl, g⟩ := pair1 p
    cases e
    exact ⟨_, call_len_str, _, rfl, g.1, q.t.flat s rep_int⟩
  · obtain ⟨v, rfl, a, rfl, hx⟩ := pair1 p
    cases e
    exact ⟨_, call_len_seq, a, _, rfl, .inl (by rw [hK]; exact s.sqL hx), by rw [List.length_map]; exact q.t.flat s rep_int⟩
  · cases e
theorem bu_list (hK : X.K = c.K) : CallQ X c (.type "list") listF := fun G H ts t vs Q e s p q => by
  unfold listF at e
  split at e
  · obtain ⟨v, rfl, a, ws, rfl, hx, rr⟩ := pair1 p
    cases e
    exact ⟨_, call_list_of, a, ws, rfl, .inl (.inl (.inl hx)), q.list rr⟩
  · obtain ⟨v, rfl, a, ws, rfl, hx, rr⟩ := pair1 p
    cases e
    exact ⟨_, call_list_of, a, ws, rfl, .inr (by rw [hK]; exact s.sqT hx), q.list rr⟩
  · cases e
theorem bu_tuple (hK : X.K = c.K) : CallQ X c (.type "tuple") tupleF := fun G H ts t vs Q e s p q => by
  unfold tupleF at e
  split at e
  · obtain ⟨v, rfl, a, ws, rfl, hx, rr⟩ := pair1 p
    cases e
    exact ⟨_, call_tuple_of, a, ws, rfl, .inl ⟨.inl (.inl hx), q.t.tup s rr⟩⟩
  · obtain ⟨v, rfl, a, ws, rfl, hx, rr⟩ := pair1 p
    cases e
    refine ⟨_, call_tuple_of, a, ws, rfl, .inr ⟨by rw [hK]; exact s.sqT hx, q.t.same s ?_⟩⟩
    simp only [Rep]
    exact ⟨a, ws, rfl, hx, rr⟩
  · cases e
theorem bu_int : CallQ X c (.type "int") intF := fun G H ts t vs Q e s p q => by
  unfold intF at e
  split at e
  · obtain ⟨v, rfl, rfl⟩ := pair1 p
    cases e
    exact ⟨_, call_int1, .inl ⟨_, rfl, q.t.flat s rep_int⟩⟩
  · obtain ⟨v, rfl, rfl⟩ := pair1 p
    cases e
    exact ⟨_, call_int1, .inr ⟨_, rfl, q.t.flat s rep_int⟩⟩
  · obtain ⟨v, rfl, rfl, g⟩ := pair1 p
    rename_i a
    by_cases l : a.length ≤ 640
    · rw [if_pos l] at e
      cases z : PySem.intText? a with
      | none => rw [z] at e; cases e
      | some n =>
        rw [z] at e
        cases e
        exact ⟨_, call_int_str, a, n, rfl, z, l, q.t.flat s rep_int⟩
    · rw [if_neg l] at e; cases e
  · cases e
theorem bu_bool : CallQ X c (.type "bool") boolF := fun G H ts t vs Q e s p q => by
  unfold boolF at e
  split at e
  · obtain ⟨v, rfl, rfl⟩ := pair1 p
    cases e
    exact ⟨_, call_bool1, .inl ⟨_, rfl, q.t.flat s rep_bl⟩⟩
  · obtain ⟨v, rfl, rfl⟩ := pair1 p
    cases e
    exact ⟨_, call_bool1, .inr ⟨_, rfl, q.t.flat s rep_bl⟩⟩
  · cases e
theorem bu_abs : CallQ X c (.builtin "abs") absF := fun G H ts t vs Q e s p q => by
  unfold absF at e
  split at e
  · obtain ⟨v, rfl, rfl⟩ := pair1 p
    cases e
    exact ⟨_, call_abs, _, rfl, q.t.flat s rep_int⟩
  · cases e
theorem bu_max (hc : X.calm = true) : CallQ X c (.builtin "max") maxF := fun G H ts t vs Q e s p q => by
  unfold maxF at e
  split at e
  · obtain ⟨v, u, rfl, rfl, rfl⟩ := pair2 p
    cases e
    exact ⟨_, call_max2 hc, _, _, rfl, q.t.flat s rep_int⟩
  · cases e
theorem bu_min (hc : X.calm = true) : CallQ X c (.builtin "min") minF := fun G H ts t vs Q e s p q => by
  unfold minF at e
  split at e
  · obtain ⟨v, u, rfl, rfl, rfl⟩ := pair2 p
    cases e
    exact ⟨_, call_min2 hc, _, _, rfl, q.t.flat s rep_int⟩
  · cases e
theorem map_some {α β : Type} {f : α → β} {o : Option α} {b : β} (h : o.map f = some b) : ∃ a, o = some a ∧ b = f a := by
  cases o with
  | none => cases h
  | some a => exact ⟨a, rfl, by cases h; rfl⟩
theorem bu_all (hc : X.calm = true) : CallQ X c (.builtin "all") allF := fun G H ts t vs Q e s p q => by
  unfold allF at e
  split at e
  · obtain ⟨v, rfl, a, ws, rfl, hx, rr⟩ := pair1 p
    obtain ⟨bs, hb, rfl⟩ := map_some e
    exact ⟨_, cr_all hc, a, bs, rfl, by rw [← bools_rep rr hb]; exact .inl (.inl hx), q.t.flat s rep_bl⟩
  · cases e
theorem bu_any (hc : X.calm = true) : CallQ X c (.builtin "any") anyF := fun G H ts t vs Q e s p q => by
  unfold anyF at e
  split at e
  · obtain ⟨v, rfl, a, ws, rfl, hx, rr⟩ := pair1 p
    obtain ⟨bs, hb, rfl⟩ := map_some e
    exact ⟨_, cr_any hc, a, bs, rfl, by rw [← bools_rep rr hb]; exact .inl (.inl hx), q.t.flat s rep_bl⟩
  · cases e
theorem bu_sum (hc : X.calm = true) : CallQ X c (.builtin "sum") sumF := fun G H ts t vs Q e s p q => by
  unfold sumF at e
  split at e
  · obtain ⟨v, rfl, a, ws, rfl, hx, rr⟩ := pair1 p
    obtain ⟨bs, hb, rfl⟩ := map_some e
    exact ⟨_, cr_sum hc, a, bs, rfl, by rw [← ints_rep rr hb]; exact .inl (.inl hx), q.t.flat s rep_int⟩
  · cases e
theorem num_strG {n : Nat} (h : n < 10 ^ 100) : StrG (Str.ofString (toString (n : Int))) := by
  rw [strG_iff, TL.tl_num]
  refine ⟨Nat.le_trans (TL.numL_len (k := 100) (by omega) h) (lim_line (by decide)), fun m hm => ?_⟩
  have d := TL.numL_digits n m hm
  have d2 : 48 ≤ m ∧ m ≤ 57 := d
  omega
theorem bu_str : CallQ X c (.type "str") strF := fun G H ts t vs Q e s p q => by
  unfold strF at e
  split at e
  · obtain ⟨v, rfl, rfl⟩ := pair1 p
    obtain ⟨hl, rfl⟩ := ite_some e
    rename_i i
    obtain ⟨n, rfl⟩ := Int.eq_ofNat_of_zero_le hl.1
    have hn : n < 10 ^ 100 := by omega
    refine ⟨_, call_str_int, _, rfl, ?_, q.t.flat s (rep_str (num_strG hn))⟩
    have h2 : ((n : Int)).natAbs < 2 ^ 1000 := Nat.lt_of_lt_of_le (by simpa using hn) (by decide +kernel)
    exact Nat.lt_of_lt_of_le (PySem.Flt.log2_lt_of (by omega) h2) (by omega)
  · obtain ⟨v, rfl, rfl, g⟩ := pair1 p
    cases e
    exact ⟨_, SkE.call_str_str, _, rfl, q.t.flat s (rep_str g)⟩
  · cases e
end

/-! ### methods of built-in values -/
@[simp] def isTy (T : String) : PV → Bool
  | .str _ => T == "str"
  | .lst _ => T == "list"
  | .dct _ _ => T == "dict"
  | _ => false
def splitM : PV → List PV → Option Arg
  | .str a, [.str b] => if (b.length == 0) = false ∧ a.length ≤ LIM then some (.ow (.lst ((Txt.split a b).map .str))) else none
  | _, _ => none
def joinM : PV → List PV → Option Arg
  | .str a, [.lst ys] => (strsP ys).bind fun zs => if (zs.map (·.length)).sum + zs.length * a.length ≤ LIM then some (.t (.str (Txt.join a zs))) else none
  | .str a, [.tup ys] => (strsP ys).bind fun zs => if (zs.map (·.length)).sum + zs.length * a.length ≤ LIM then some (.t (.str (Txt.join a zs))) else none
  | _, _ => none
def startswithM : PV → List PV → Option Arg
  | .str a, [.str b] => some (.t (.bl (Txt.startswith a b)))
  | _, _ => none
def endswithM : PV → List PV → Option Arg
  | .str a, [.str b] => some (.t (.bl (Txt.endswith a b)))
  | _, _ => none
@[simp] def rMet (T : String) (f : PV → List PV → Option Arg) (ea : EvE) (el : EvA) : EvR := fun env => (ea env).bind fun x e1 => match look e1 x with
  | some t0 => if isTy T t0 then (el e1).bind fun xs e => (match look e x, looks e xs with
    | some t, some ts => ofO (f t ts) e
    | _, _ => .bad) else .bad
  | none => .bad
section
variable {X : Cx} {c : TC} {r : Ref} {W : WX} {o a : Expr} {as : List Expr} {ea : EvE} {el : EvA} {apos cpos : Pos}
theorem isTy_rep {G H : Hp} {t : PV} {v : V} {T : String} (w : WRep c G H t v) (h : isTy T t = true) : tyV c.K T v H := by
  cases t with
  | str x =>
    obtain ⟨rfl, _⟩ := w
    exact beq_iff_eq.mp h
  | lst xs =>
    obtain ⟨p, vs, rfl, hx, _⟩ := w
    exact .inl ⟨beq_iff_eq.mp h, vs, .inl (.inl hx)⟩
  | dct k kvs =>
    obtain ⟨p, rfl, hx⟩ := w
    refine .inr (.inr (.inl ⟨beq_iff_eq.mp h, ?_⟩))
    rcases hx with ⟨_, ks, hx, _⟩ | ⟨_, ks, hx, _⟩
    · exact .inl ⟨ks, hx⟩
    · exact .inr ⟨ks, hx⟩
  | _ => cases h
theorem mtAny {id : String} : MtR X id (fun v vs H Q => ∃ r, MtR X id r ∧ r v vs H Q) := fun pins s σ H x xs v us Q I r1 rr ⟨r, h, q⟩ => h pins s σ H x xs v us Q I r1 rr q
theorem rmet_imp {T id : String} {f : PV → List PV → Option Arg} (hK : X.K = c.K) (ho : MtQ X c id f) {σ : L2.St} {H : Hp} {Q : VK} (h : TRof c r W (rMet T f ea el) σ H Q) : tBM X.K T (fun v vs H Q => ∃ r, MtR X id r ∧ r v vs H Q) (TEof c r W ea) (TAof c r W el) σ H Q := by
  obtain ⟨ads, G, env, R, h⟩ := h
  refine ⟨ads, G, env, R, Sat_mono (Sat_bind.mp h) (fun x e1 h1 ads1 G1 H1 v1 R1 s1 p1 => ?_) fun _ _ z => z⟩
  cases q1 : look e1 x with
  | none => simp only [q1] at h1; exact h1.elim
  | some t0 =>
    simp only [q1] at h1
    by_cases ty : isTy T t0 = true
    rotate_left
    · rw [if_neg ty] at h1; exact h1.elim
    rw [if_pos ty] at h1
    refine ⟨by rw [hK]; exact isTy_rep (look_rep R1 p1 q1) ty, ads1, G1, e1, R1, Sat_mono (Sat_bind.mp h1) (fun xs e2 h2 ads2 G2 H2 vs R2 s2 p2 => ?_) fun x e z => z.weak s1.sub⟩
    cases q2 : look e2 x with
    | none => simp only [q2] at h2; exact h2.elim
    | some t1 =>
      simp only [q2] at h2
      cases q3 : looks e2 xs with
      | none => simp only [q3] at h2; exact h2.elim
      | some ts =>
        simp only [q3] at h2
        obtain ⟨t, ht, h3⟩ := Sat_ofO.mp h2
        exact ho G2 H2 t1 ts t v1 vs Q ht R2.sub (look_rep R2 (p1.mono s2.sub) q2) (looks_rep R2 p2 q3) (QOut.res R2 (s1.trans s2) h3)
theorem tr_met {T id : String} {name : Str} {f : PV → List PV → Option Arg} (hK : X.K = c.K) (pa : PlainAttrs T) (slot : Slot T name id) (hty : typeOf (.builtin id) = pure (.type "method_descriptor")) (ho : MtQ X c id f) (he : PE X o (TEof c r W ea)) (ha : PA X (a :: as) (TAof c r W el))
    (hbase : attributeBase o name X.env (eval o X.env) = eval o X.env := by rfl)
    (hfew : ((backTo cpos (starEach (a :: as) X.env)).all (fun x => !x.1) && (backToKw cpos (keywordEach [] X.env)).all (fun x => x.1.isSome) && decide ((a :: as).length + ([] : List Keyword).length + (if ([] : List Keyword).isEmpty then 0 else 1) < 30)) = true := by rfl)
    (hline : (apos.endLine == cpos.line) = true := by rfl) (hs : starEach (a :: as) X.env = (false, eval a X.env) :: starEach as X.env := by rfl) (hplain : (backTo cpos (starEach as X.env)).any (·.1) = false := by rfl) :
    PE X (.Call (.Attribute o name apos) (a :: as) [] cpos) (TRof c r W (rMet T f ea el)) :=
  PE.imp (pe_bm pa slot hty mtAny he ha hbase hfew hline hs hplain) fun _ _ _ h => rmet_imp hK ho h
theorem strs_map {ys : List Str} {G : Hp} (h : ∀ y ∈ ys, StrG y) : RepL c G (ys.map PV.str) (ys.map V.str) := by
  induction ys with
  | nil => exact RepL.nil
  | cons y ys ih => exact RepL.cons (rep_str (h y List.mem_cons_self) G) (ih fun z hz => h z (List.mem_cons_of_mem _ hz))
theorem mt_splitM : MtQ X c "str.split" splitM := fun G H t0 ts t v0 vs Q e s w p q => by
  unfold splitM at e
  split at e
  · obtain ⟨rfl, g⟩ := w
    obtain ⟨v, rfl, rfl, g2⟩ := pair1 p
    obtain ⟨hl, rfl⟩ := ite_some e
    exact ⟨_, mt_split, _, _, rfl, rfl, hl.1, Nat.le_trans (Nat.add_le_add_right hl.2 2) (by decide), q.list (strs_map fun y hy => split_strG g hy)⟩
  · cases e
theorem mt_joinM (hK : X.K = c.K) : MtQ X c "str.join" joinM := fun G H t0 ts t v0 vs Q e s w p q => by
  unfold joinM at e
  split at e
  · obtain ⟨rfl, g⟩ := w
    obtain ⟨v, rfl, a, ws, rfl, hx, rr⟩ := pair1 p
    rename_i ys
    cases z : strsP ys with
    | none => rw [z] at e; cases e
    | some zs =>
      rw [z] at e
      obtain ⟨hl, rfl⟩ := ite_some (show (if _ then _ else _) = _ from e)
      obtain ⟨rfl, hg⟩ := strs_rep rr z
      exact ⟨_, mt_join, _, a, zs, rfl, rfl, .inl (.inl (.inl hx)), Nat.le_trans hl (by decide), q.t.flat s (rep_str (join_strG g hg hl))⟩
  · obtain ⟨rfl, g⟩ := w
    obtain ⟨v, rfl, a, ws, rfl, hx, rr⟩ := pair1 p
    rename_i ys
    cases z : strsP ys with
    | none => rw [z] at e; cases e
    | some zs =>
      rw [z] at e
      obtain ⟨hl, rfl⟩ := ite_some (show (if _ then _ else _) = _ from e)
      obtain ⟨rfl, hg⟩ := strs_rep rr z
      exact ⟨_, mt_join, _, a, zs, rfl, rfl, .inr (by rw [hK]; exact s.sqT hx), Nat.le_trans hl (by decide), q.t.flat s (rep_str (join_strG g hg hl))⟩
  · cases e
theorem mt_startswithM : MtQ X c "str.startswith" startswithM := fun G H t0 ts t v0 vs Q e s w p q => by
  unfold startswithM at e
  split at e
  · obtain ⟨rfl, g⟩ := w
    obtain ⟨v, rfl, rfl, g2⟩ := pair1 p
    cases e
    exact ⟨_, mt_startswith, _, _, rfl, rfl, q.t.flat s rep_bl⟩
  · cases e
end

/-! ### subscripts, slices -/
def ixP : PV → PV → Option PV
  | .lst xs, .int i => atI xs i
  | .tup xs, .int i => atI xs i
  | .str z, .int i => (atI z.cps.toList i).map fun n => .str ⟨#[n]⟩
  | _, _ => none
def cutP (xs : List PV) (lo hi : Option Int) : List PV := (xs.drop (HT.sIx xs.length 0 lo)).take (HT.sIx xs.length xs.length hi - HT.sIx xs.length 0 lo)
def slA : PV → Option Int → Option Int → Option Arg
  | .lst xs, lo, hi => some (.ow (.lst (cutP xs lo hi)))
  | .tup xs, lo, hi => some (.t (.tup (cutP xs lo hi)))
  | .str z, lo, hi => some (.t (.str (cutS z lo hi)))
  | .scr ns, lo, hi => some (.ow (.lst (cutP (ns.map PV.int) lo hi)))
  | _, _, _ => none
abbrev EvO := En → RE (Option Int)
def TOof (c : TC) (r : Ref) (W : WX) (ev : EvO) : TO := fun σ H Q => ∃ ads G env, RS c r ads G H σ env ∧
  (ev env).Sat (fun x env' => ∀ ads' G' H', RS c r ads' G' H' σ env' → Nxt ads G H ads' G' H' → Q x H') (XC c r W G σ)
@[simp] def oNo : EvO := fun env => .ok none env
@[simp] def oSo (ea : EvE) : EvO := fun env => (ea env).bind fun x e => match look e x with
  | some (.int i) => .ok (some i) e
  | _ => .bad
@[simp] def rSl (ea : EvE) (lo hi : EvO) : EvR := fun env => (ea env).bind fun x e1 => (lo e1).bind fun l e2 => (hi e2).bind fun h e3 => match look e3 x with
  | some t => ofO (slA t l h) e3
  | none => .bad
section
variable {X : Cx} {c : TC} {r : Ref} {W : WX} {a b : Expr} {ea eb : EvE} {lo hi : Option Expr} {ol oh : EvO} {pos p2 : Pos}
theorem PO.imp {e : Option Expr} {t t' : TO} (h : PO X e t) (i : ∀ σ H Q, t' σ H Q → t σ H Q) : PO X e t' := ⟨fun pins s σ H Q I q => h.run pins s σ H Q I (i σ H Q q)⟩
theorem to_no : PO X none (TOof c r W oNo) := PO.imp po_none fun σ H Q ⟨ads, G, env, R, h⟩ => h ads G H R (Nxt.refl _ _ _)
theorem to_so {e : Expr} (he : PE X e (TEof c r W ea)) : PO X (some e) (TOof c r W (oSo ea)) := PO.imp (po_some he) fun σ H Q ⟨ads, G, env, R, h⟩ => by
  refine ⟨ads, G, env, R, Sat_mono (Sat_bind.mp h) (fun x e1 h1 ads1 G1 H1 v1 R1 s1 p1 => ?_) fun _ _ z => z⟩
  cases q : look e1 x with
  | none => simp only [q] at h1; exact h1.elim
  | some t =>
    have w := look_rep R1 p1 q
    cases t with
    | int i =>
      simp only [q] at h1
      cases w
      exact ⟨i, rfl, h1 ads1 G1 H1 R1 s1⟩
    | _ => simp only [q] at h1; exact h1.elim
theorem RepL.atI {G : Hp} {ts : List PV} {vs : List V} {i : Int} {x : PV} (rr : RepL c G ts vs) (h : L2.atI ts i = some x) : ∃ v, L2.atI vs i = some v ∧ Rep c G x v := by
  unfold L2.atI at h ⊢
  rw [rr.length]
  cases q : ixN ts.length i with
  | none => rw [q] at h; cases h
  | some j => rw [q] at h; exact rr.get h
theorem atI_mem {α : Type} {l : List α} {i : Int} {x : α} (h : L2.atI l i = some x) : x ∈ l := by
  unfold L2.atI at h
  cases q : ixN l.length i with
  | none => rw [q] at h; cases h
  | some j => rw [q] at h; exact List.mem_of_getElem? h
def rAnyIx (X : Cx) : R2 := fun x y H Q => ∃ r, IxR X r ∧ r x y H Q
theorem ixAny : IxR X (rAnyIx X) := fun value slice pins s σ H x y v u Q I r1 r2 ⟨r, h, q⟩ hs => h value slice pins s σ H x y v u Q I r1 r2 q hs
theorem ix_ok (hK : X.K = c.K) {G H : Hp} {t1 t2 t : PV} {v1 v2 : V} {Q : VK} (e : ixP t1 t2 = some t) (s : Sub G H) (w1 : WRep c G H t1 v1) (w2 : WRep c G H t2 v2) (q : VOut c G H t Q) : rAnyIx X v1 v2 H Q := by
  unfold ixP at e
  split at e
  · obtain ⟨p, vs, rfl, hx, rr⟩ := w1
    cases w2
    obtain ⟨v, hv, rv⟩ := rr.atI e
    exact ⟨_, ix_list, p, vs, _, v, rfl, rfl, .inl (.inl hx), hv, q.same s rv⟩
  · obtain ⟨p, vs, rfl, hx, rr⟩ := w1
    cases w2
    obtain ⟨v, hv, rv⟩ := rr.atI e
    exact ⟨_, ix_tup, p, vs, _, v, rfl, rfl, by rw [hK]; exact s.sqT hx, hv, q.same s rv⟩
  · obtain ⟨rfl, g⟩ := w1
    cases w2
    obtain ⟨n, hn, rfl⟩ := map_some e
    refine ⟨_, ix_str, _, _, n, rfl, rfl, g.1, hn, q.flat s (rep_str ?_)⟩
    refine strG_sub (l := [n]) g ?_
    exact List.singleton_sublist.mpr (atI_mem hn)
  · cases e
theorem pt_ix (hK : X.K = c.K) (ha : PE X a (TEof c r W ea)) (hb : PE X b (TEof c r W eb)) (hs : PlainIx b) : PE X (.Subscript a b pos) (TEof c r W (eBin ixP ea eb)) := PE.imp (pe_ix ixAny ha hb hs) fun σ H Q ⟨ads, G, env, R, h⟩ => by
  refine ⟨ads, G, env, R, Sat_mono (Sat_bind.mp h) (fun x e1 h1 ads1 G1 H1 v1 R1 s1 p1 => ?_) fun _ _ z => z⟩
  refine ⟨ads1, G1, e1, R1, Sat_mono (Sat_bind.mp h1) (fun y e2 h2 ads2 G2 H2 v2 R2 s2 p2 => ?_) fun x e z => z.weak s1.sub⟩
  cases q1 : look e2 x with
  | none => rw [q1] at h2; exact h2.elim
  | some t1 =>
    rw [q1] at h2
    cases q2 : look e2 y with
    | none => rw [q2] at h2; exact h2.elim
    | some t2 =>
      rw [q2] at h2
      obtain ⟨t, ht, h2⟩ := Sat_ofO.mp (Sat_bind.mp h2)
      exact ix_ok hK ht R2.sub (look_rep R2 (p1.mono s2.sub) q1) (look_rep R2 p2 q2) fun v H' G' st p => h2 ads2 G' H' v (R2.next st) ((s1.trans s2).trans (Nxt.of st)) p
theorem ints_map {G : Hp} : ∀ {ns : List Int}, RepL c G (ns.map PV.int) (ns.map V.int)
  | [] => RepL.nil
  | n :: ns => RepL.cons (rep_int G) ints_map
theorem cut_rep {G : Hp} {ts : List PV} {vs : List V} (rr : RepL c G ts vs) (lo hi : Option Int) : RepL c G (cutP ts lo hi) (cutV vs lo hi) := by
  unfold cutP cutV
  rw [rr.length]
  exact (rr.drop _).take _
def rAnySl (X : Cx) : V → Option Int → Option Int → Hp → VK → Prop := fun x l h H Q => ∃ r, SlR X r ∧ r x l h H Q
theorem slAny : SlR X (rAnySl X) := fun pins s σ H x v vl vu lo hi sl Q I rx hs pl pu ⟨r, h, q⟩ => h pins s σ H x v vl vu lo hi sl Q I rx hs pl pu q
theorem sl_ok (hK : X.K = c.K) {G H : Hp} {t1 : PV} {t : Arg} {l h : Option Int} {v1 : V} {Q : VK} (e : slA t1 l h = some t) (s : Sub G H) (w1 : WRep c G H t1 v1) (q : QOut c G H t Q) : rAnySl X v1 l h H Q := by
  unfold slA at e
  split at e
  · cases e
    obtain ⟨p, vs, rfl, hx, rr⟩ := w1
    exact ⟨_, sl_list, p, vs, rfl, .inl (.inl hx), q.list (cut_rep rr _ _)⟩
  · cases e
    obtain ⟨p, vs, rfl, hx, rr⟩ := w1
    refine ⟨_, sl_tupA, p, vs, rfl, by rw [hK]; exact s.sqT hx, fun z => q.t.same s ?_, fun _ => q.t.tup s (cut_rep rr _ _)⟩
    have e2 := cut_rep rr l h
    have e3 : cutV vs l h = vs := by
      unfold cutV
      rw [z.1, z.2, List.drop_zero, Nat.sub_zero, List.take_length]
    rw [e3] at e2
    simp only [Rep]
    exact ⟨p, vs, rfl, hx, e2⟩
  · cases e
    obtain ⟨rfl, g⟩ := w1
    refine ⟨_, sl_str, _, rfl, g.1, q.t.flat s (rep_str ?_)⟩
    unfold cutS
    exact strG_sub g ((List.take_sublist _ _).trans (List.drop_sublist _ _))
  · cases e
    obtain ⟨p, rfl, hx⟩ := w1
    exact ⟨_, sl_list, p, _, rfl, by rw [hK]; exact s.sqL hx, q.list (cut_rep ints_map _ _)⟩
  · cases e
theorem tr_sl (hK : X.K = c.K) (ha : PE X a (TEof c r W ea)) (hl : PO X lo (TOof c r W ol)) (hh : PO X hi (TOof c r W oh)) : PE X (.Subscript a (.Slice lo hi none p2) pos) (TRof c r W (rSl ea ol oh)) := PE.imp (pe_slice slAny ha hl hh) fun σ H Q ⟨ads, G, env, R, h⟩ => by
  refine ⟨ads, G, env, R, Sat_mono (Sat_bind.mp h) (fun x e1 h1 ads1 G1 H1 v1 R1 s1 p1 => ?_) fun _ _ z => z⟩
  refine ⟨ads1, G1, e1, R1, Sat_mono (Sat_bind.mp h1) (fun l e2 h2 ads2 G2 H2 R2 s2 => ?_) fun x e z => z.weak s1.sub⟩
  refine ⟨ads2, G2, e2, R2, Sat_mono (Sat_bind.mp h2) (fun u e3 h3 ads3 G3 H3 R3 s3 => ?_) fun x e z => z.weak (s1.sub.trans s2.sub)⟩
  cases q1 : look e3 x with
  | none => rw [q1] at h3; exact h3.elim
  | some t1 =>
    rw [q1] at h3
    obtain ⟨t, ht, h4⟩ := Sat_ofO.mp h3
    exact sl_ok hK ht R3.sub (look_rep R3 (p1.mono (s2.sub.trans s3.sub)) q1) (QOut.res R3 ((s1.trans s2).trans s3) h4)
end
end TreeL
end
section
/-! TL9: fields, methods that change an object of ours, comprehensions, iterators, chains, constants. -/
namespace TreeL
open PySem PySem.Spec PyProof.Rows L2

/-! ### constants -/
/-- a tree that stands in the written part -/
def KRep (c : TC) (t : PV) (v : V) : Prop := ∀ G, Rep c G t v
theorem pt_glob {X : Cx} {c : TC} {r : Ref} {W : WX} {x : Str} {t : PV} {v : V} {u : Value} {p : Pos} (hg : Gl X x) (hm : X.mg x = some u) (hr : RelV v u) (hk : KRep c t v) (h : PE X (.Name x p) (tC v)) : PE X (.Name x p) (TEof c r W (eCon t)) := pt_con h hk

/-! ### fields -/
@[simp] def eFld (ks : List Nat) (f : Str) (ea : EvE) : EvE := fun env => (ea env).bind fun x e => match look e x with
  | some (.ins k fs) => if ks.contains k then (ofO (fs.lookup f) e).bind fun t e => .ok (.tr t) e else .bad
  | _ => .bad
def putFP (f : Str) (t : PV) : List (Str × PV) → List (Str × PV)
  | [] => [(f, t)]
  | (g, x) :: r => if g = f then (g, t) :: r else (g, x) :: putFP f t r
def sFldT (i k : Nat) (f : Str) (ea : EvE) : EvS := fun env => (ea env).so fun x e => match x with
  | .tr t => (match e[i]? with
    | some (some (.ow (.ins k' fs))) => if k' = k ∧ fs.length < 1000 then .nx (e.set i (some (.ow (.ins k (putFP f t fs))))) else .bad
    | _ => .bad)
  | .sl _ => .bad
section
variable {X : Cx} {c : TC} {r : Ref} {W : WX} {o e : Expr} {ea : EvE} {f : Str} {ks : List Nat} {i k : Nat} {pos pos' p : Pos}
theorem RepF.put {G : Hp} {f : Str} {t : PV} {v : V} (h : Rep c G t v) : ∀ {fs : List (Str × PV)} {gs : List (Str × V)}, RepF c G fs gs → RepF c G (putFP f t fs) (putF f v gs)
  | [], _, e => by cases e; exact ⟨v, [], rfl, h, rfl⟩
  | (g, x) :: fs, _, ⟨u, r, e, a, b⟩ => by
    subst e
    unfold putFP putF
    by_cases q : g = f
    · rw [if_pos q, if_pos q]; exact ⟨v, r, rfl, h, b⟩
    · rw [if_neg q, if_neg q]; exact ⟨u, _, rfl, a, RepF.put h b⟩
theorem pt_fld (hf : ∀ k ∈ ks, Cls X.K (c.C k) ∧ NoAttr X.K (c.C k) f) (he : PE X e (TEof c r W ea)) (hb : attributeBase e f X.env (eval e X.env) = eval e X.env := by rfl) : PE X (.Attribute e f pos) (TEof c r W (eFld ks f ea)) := PE.imp (pe_fld he hb) fun σ H Q ⟨ads, G, env, R, h⟩ => by
  refine ⟨ads, G, env, R, Sat_mono (Sat_bind.mp h) (fun x e1 h1 ads1 G1 H1 v1 R1 s1 p1 => ?_) fun _ _ z => z⟩
  cases q : look e1 x with
  | none => simp only [q] at h1; exact h1.elim
  | some t =>
    have w := look_rep R1 p1 q
    cases t with
    | ins k fs =>
      simp only [q] at h1
      by_cases m : ks.contains k = true
      · rw [if_pos m] at h1
        obtain ⟨t, ht, h2⟩ := Sat_ofO.mp (Sat_bind.mp h1)
        obtain ⟨a, dx, gs, rfl, hH, rf⟩ := w
        obtain ⟨u, hu, ru⟩ := rf.lookup ht
        obtain ⟨c1, c2⟩ := hf k (List.contains_iff_mem.mp m)
        exact ⟨a, c.C k, dx, gs, u, rfl, hH, c1, c2, hu, h2 ads1 G1 H1 u R1 s1 ru⟩
      · rw [if_neg m] at h1; exact h1.elim
    | _ => simp only [q] at h1; exact h1.elim
/-- o.f = e, o the slot i -/
theorem ts_fld (hc : Cls X.K (c.C k)) (hn : NoAttr X.K (c.C k) f) (ho : PE X o (tVar i)) (he : PE X e (TEof c r W ea)) (hs : swapsWith e (some (.Attribute o f pos')) pos.line X.env = pure false := by rfl) : PS X (.Assign [.Attribute o f pos'] e pos) (TSof c r W (sFldT i k f ea)) :=
  PS.imp (ps_fld ho he hs) fun D σ H ⟨ads, G, env, R, h⟩ => by
    refine ⟨ads, G, env, R, Sat_mono (RE.so_Sat.mp h) (fun x e1 h1 ads1 G1 H1 v1 R1 s1 p1 => ?_) fun x e z => XC.of z⟩
    cases x with
    | sl i => exact h1.elim
    | tr t =>
      have sl := R1.slot i
      cases q : e1[i]? with
      | none => simp only [q] at h1; exact h1.elim
      | some o =>
        cases o with
        | none => simp only [q] at h1; exact h1.elim
        | some a =>
          cases a with
          | t _ => simp only [q] at h1; exact h1.elim
          | ow o =>
            cases o with
            | ins k' fs =>
              simp only [q] at h1
              by_cases m : k' = k ∧ fs.length < 1000
              · rw [if_pos m] at h1
                obtain ⟨rfl, hl⟩ := m
                rw [q] at sl
                cases w : σ[i]?.join with
                | none => rw [w] at sl; exact (show False from sl).elim
                | some v =>
                  rw [w] at sl
                  obtain ⟨p, rfl, ad, dx, gs, hH, rf⟩ := sl
                  have hv : σ[i]? = some (some (.ref p)) := Option.join_eq_some_iff.mp w
                  refine ⟨.ref p, hv, p, c.C k', dx, gs, rfl, hH, hc, hn, by rw [rf.length]; exact hl, ?_⟩
                  exact h1 ads1 G1 _ σ (R1.write hv (by rw [ad]; exact List.mem_singleton.mpr rfl) hH ⟨ad, dx, _, upd_same, rf.put p1⟩) s1.sub
              · rw [if_neg m] at h1; exact h1.elim
            | _ => simp only [q] at h1; exact h1.elim
end

/-! ### methods that change the object of a slot -/
def isTyO (T : String) : OS → Bool
  | .lst _ => T == "list"
  | .dct _ _ => T == "dict"
  | _ => false
def MutP (X : Cx) (c : TC) (id : String) (f : OS → List PV → Option (PV × OS)) : Prop :=
  ∀ G H p ad o ts vs t o' Q, f o ts = some (t, o') → Sub G H → OwRep c G H p ad o → RepL c G ts vs → (∀ a ho ho' v, a ∈ ad → H a = some ho → OwRep c G (upd H a ho') p ad o' → Rep c G t v → Q v (upd H a ho')) → ∃ r, MtR X id r ∧ r (.ref p) vs H Q
def eMut (T : String) (f : OS → List PV → Option (PV × OS)) (i : Nat) (el : EvA) : EvE := fun env => match env[i]? with
  | some (some (.ow o)) => if isTyO T o then (el env).bind fun xs e => (match e[i]?, trees xs with
    | some (some (.ow o)), some ts => (ofO (f o ts) e).bind fun q e => .ok (.tr q.1) (e.set i (some (.ow q.2)))
    | _, _ => .bad) else .bad
  | _ => .bad
section
variable {X : Cx} {c : TC} {r : Ref} {W : WX} {o a : Expr} {as : List Expr} {el : EvA} {i : Nat} {apos cpos : Pos}
theorem isTyO_rep {G H : Hp} {p : Addr} {ad : List Addr} {o : OS} {T : String} (w : OwRep c G H p ad o) (h : isTyO T o = true) : tyV c.K T (.ref p) H := by
  cases o with
  | lst xs =>
    obtain ⟨_, vs, hx, _⟩ := w
    exact .inl ⟨beq_iff_eq.mp h, vs, .inl (.inl hx)⟩
  | dct k kvs =>
    obtain ⟨_, hx⟩ := w
    refine .inr (.inr (.inl ⟨beq_iff_eq.mp h, ?_⟩))
    rcases hx with ⟨_, ks, hx, _⟩ | ⟨_, ks, hx, _⟩
    · exact .inl ⟨ks, hx⟩
    · exact .inr ⟨ks, hx⟩
  | _ => cases h
theorem Nxt.wr {ads : Nat → List Addr} {G H : Hp} {a : Addr} {ho ho' : HO} {i : Nat} (h : a ∈ ads i) (hH : H a = some ho) : Nxt ads G H ads G (upd H a ho') where
  sub := Sub.refl _
  hold := fun b o e n => by
    have ne : b ≠ a := fun z => n i (by rw [z]; exact h)
    exact ⟨by rw [upd_ne ne]; exact e, n, id⟩
  there := fun b e => by
    by_cases z : b = a
    · rw [z, upd_same] at e; cases e
    · rw [upd_ne z] at e; exact e
theorem slot_own {ads : Nat → List Addr} {G H : Hp} {σ : L2.St} {env : En} {o : OS} (R : RS c r ads G H σ env) (q : env[i]? = some (some (.ow o))) : ∃ p, σ[i]? = some (some (.ref p)) ∧ OwRep c G H p (ads i) o := by
  have sl := R.slot i
  rw [q] at sl
  cases w : σ[i]?.join with
  | none => rw [w] at sl; exact (show False from sl).elim
  | some v =>
    rw [w] at sl
    obtain ⟨p, rfl, ow⟩ := sl
    exact ⟨p, Option.join_eq_some_iff.mp w, ow⟩
theorem mut_core {id : String} {f : OS → List PV → Option (PV × OS)} (ho : MutP X c id f) {ads0 ads : Nat → List Addr} {G0 H0 G H : Hp} {σ : L2.St} {env : En} {p : Addr} {xs : List Vl} {vs : List V} {Q : VK} (R : RS c r ads G H σ env) (s0 : Nxt ads0 G0 H0 ads G H) (hp : σ[i]? = some (some (.ref p))) (pv : VReps c σ G xs vs)
    (h : (match env[i]?, trees xs with
    | some (some (.ow o)), some ts => (ofO (f o ts) env).bind fun q e => RE.ok (Vl.tr q.1) (e.set i (some (.ow q.2)))
    | _, _ => .bad).Sat (fun x env' => ∀ ads' G' H' v, RS c r ads' G' H' σ env' → Nxt ads0 G0 H0 ads' G' H' → VRep c σ G' x v → Q v H') (XC c r W G0 σ)) : ∃ r, MtR X id r ∧ r (.ref p) vs H Q := by
  cases q : env[i]? with
  | none => simp only [q] at h; exact h.elim
  | some o =>
    cases o with
    | none => simp only [q] at h; exact h.elim
    | some a =>
      cases a with
      | t _ => simp only [q] at h; exact h.elim
      | ow o =>
        cases q2 : trees xs with
        | none => simp only [q, q2] at h; exact h.elim
        | some ts =>
          simp only [q, q2] at h
          obtain ⟨⟨t, o'⟩, ht, h2⟩ := Sat_ofO.mp (Sat_bind.mp h)
          obtain ⟨p', e1, ow⟩ := slot_own R q
          rw [hp] at e1
          cases e1
          exact ho G H p (ads i) o ts vs t o' Q ht R.sub ow (trees_rep pv q2) fun a hh hh' v ha hH ow' rv => h2 ads G _ v (R.write hp ha hH ow') (s0.trans (Nxt.wr ha hH)) rv
theorem pt_mut {T id : String} {name : Str} {f : OS → List PV → Option (PV × OS)} (hK : X.K = c.K) (pa : PlainAttrs T) (slot : Slot T name id) (hty : typeOf (.builtin id) = pure (.type "method_descriptor")) (ho : MutP X c id f) (he : PE X o (tVar i)) (ha : PA X (a :: as) (TAof c r W el))
    (hbase : attributeBase o name X.env (eval o X.env) = eval o X.env := by rfl)
    (hfew : ((backTo cpos (starEach (a :: as) X.env)).all (fun x => !x.1) && (backToKw cpos (keywordEach [] X.env)).all (fun x => x.1.isSome) && decide ((a :: as).length + ([] : List Keyword).length + (if ([] : List Keyword).isEmpty then 0 else 1) < 30)) = true := by rfl)
    (hline : (apos.endLine == cpos.line) = true := by rfl) (hs : starEach (a :: as) X.env = (false, eval a X.env) :: starEach as X.env := by rfl) (hplain : (backTo cpos (starEach as X.env)).any (·.1) = false := by rfl) :
    PE X (.Call (.Attribute o name apos) (a :: as) [] cpos) (TEof c r W (eMut T f i el)) :=
  PE.imp (pe_bm pa slot hty mtAny he ha hbase hfew hline hs hplain) fun σ H Q ⟨ads, G, env, R, h⟩ => by
    simp only [eMut] at h
    cases q : env[i]? with
    | none => simp only [q] at h; exact h.elim
    | some o =>
      cases o with
      | none => simp only [q] at h; exact h.elim
      | some a =>
        cases a with
        | t _ => simp only [q] at h; exact h.elim
        | ow o =>
          simp only [q] at h
          by_cases ty : isTyO T o = true
          rotate_left
          · rw [if_neg ty] at h; exact h.elim
          rw [if_pos ty] at h
          obtain ⟨p, e1, ow⟩ := slot_own R q
          refine ⟨.ref p, e1, by rw [hK]; exact isTyO_rep ow ty, ads, G, env, R, Sat_mono (Sat_bind.mp h) (fun xs e2 h2 ads2 G2 H2 vs R2 s2 p2 => mut_core ho R2 s2 e1 p2 h2) fun _ _ z => z⟩
theorem pt_mut0 {T id : String} {name : Str} {f : OS → List PV → Option (PV × OS)} (hK : X.K = c.K) (pa : PlainAttrs T) (slot : Slot T name id) (hty : typeOf (.builtin id) = pure (.type "method_descriptor")) (ho : MutP X c id f) (he : PE X o (tVar i))
    (hbase : attributeBase o name X.env (eval o X.env) = eval o X.env := by rfl) (hline : (apos.endLine == cpos.line) = true := by rfl) : PE X (.Call (.Attribute o name apos) [] [] cpos) (TEof c r W (eMut T f i aNil)) :=
  PE.imp (pe_bm0 pa slot hty mtAny he hbase hline) fun σ H Q ⟨ads, G, env, R, h⟩ => by
    simp only [eMut] at h
    cases q : env[i]? with
    | none => simp only [q] at h; exact h.elim
    | some o =>
      cases o with
      | none => simp only [q] at h; exact h.elim
      | some a =>
        cases a with
        | t _ => simp only [q] at h; exact h.elim
        | ow o =>
          simp only [q] at h
          by_cases ty : isTyO T o = true
          rotate_left
          · rw [if_neg ty] at h; exact h.elim
          rw [if_pos ty] at h
          obtain ⟨p, e1, ow⟩ := slot_own R q
          exact ⟨.ref p, e1, by rw [hK]; exact isTyO_rep ow ty, mut_core (xs := []) (vs := []) ho R (Nxt.refl _ _ _) e1 rfl (Sat_bind.mp h)⟩
def appendO : OS → List PV → Option (PV × OS)
  | .lst xs, [t] => if xs.length < LIM then some (.non, .lst (xs ++ [t])) else none
  | _, _ => none
def extendO : OS → List PV → Option (PV × OS)
  | .lst xs, [.lst ts] => if xs.length + ts.length ≤ LIM then some (.non, .lst (xs ++ ts)) else none
  | _, _ => none
def popO : OS → List PV → Option (PV × OS)
  | .lst xs, [] => (xs[xs.length - 1]?).map fun t => (t, .lst xs.dropLast)
  | .lst xs, [.int i] => if -(2 ^ 63) ≤ i ∧ i < 2 ^ 63 then (seqIndex? i xs.length).bind fun k => (xs[k]?).map fun t => (t, .lst (xs.eraseIdx k)) else none
  | _, _ => none
def reverseO : OS → List PV → Option (PV × OS)
  | .lst xs, [] => some (.non, .lst xs.reverse)
  | _, _ => none
theorem RepL.dropLast {G : Hp} {ts : List PV} {vs : List V} (h : RepL c G ts vs) : RepL c G ts.dropLast vs.dropLast := by
  rw [List.dropLast_eq_take, List.dropLast_eq_take, h.length]
  exact h.take _
theorem mu_append : MutP X c "list.append" appendO := fun G H p ad o ts vs t o' Q e s w rr h => by
  unfold appendO at e
  split at e
  · obtain ⟨hl, e⟩ := ite_some e
    cases e
    obtain ⟨ha, ws, hH, rw⟩ := w
    obtain ⟨v, u, rfl, rv, ru⟩ := rr
    cases ru
    exact ⟨_, mt_append, p, ws, v, rfl, rfl, hH, by rw [rw.length]; exact Nat.lt_of_lt_of_le hl (lim_line (Nat.le_refl _)), h p _ _ _ (by rw [ha]; exact List.mem_singleton.mpr rfl) hH ⟨ha, _, upd_same, rw.append (RepL.one rv)⟩ (rep_non G)⟩
  · cases e
theorem mu_extend : MutP X c "list.extend" extendO := fun G H p ad o ts vs t o' Q e s w rr h => by
  unfold extendO at e
  split at e
  · obtain ⟨hl, e⟩ := ite_some e
    cases e
    obtain ⟨ha, ws, hH, rw⟩ := w
    obtain ⟨v, u, rfl, rv, ru⟩ := rr
    cases ru
    simp only [Rep] at rv
    obtain ⟨b, zs, rfl, hb, rz⟩ := rv
    exact ⟨_, mt_extend, p, b, ws, zs, rfl, rfl, hH, s _ _ hb, by rw [rw.length, rz.length]; exact lim_line hl, h p _ _ _ (by rw [ha]; exact List.mem_singleton.mpr rfl) hH ⟨ha, _, upd_same, rw.append rz⟩ (rep_non G)⟩
  · cases e
theorem mu_pop : MutP X c "list.pop" popO := fun G H p ad o ts vs t o' Q e s w rr h => by
  unfold popO at e
  split at e
  · obtain ⟨x, hx, e⟩ := map_some e
    cases e
    obtain ⟨ha, ws, hH, rw⟩ := w
    cases rr
    obtain ⟨u, hu, ru⟩ := rw.get hx
    refine ⟨_, mt_pop, p, ws, u, rfl, rfl, hH, by rw [rw.length]; exact hu, h p _ _ _ (by rw [ha]; exact List.mem_singleton.mpr rfl) hH ⟨ha, _, upd_same, rw.dropLast⟩ ru⟩
  · rename_i xs i
    by_cases hl : -(2 ^ 63) ≤ i ∧ i < 2 ^ 63
    · rw [if_pos hl] at e
      cases q : seqIndex? i xs.length with
      | none => rw [q] at e; cases e
      | some k =>
        rw [q] at e
        obtain ⟨x, hx, e⟩ := map_some e
        cases e
        obtain ⟨ha, ws, hH, rw⟩ := w
        obtain ⟨v, u, rfl, rv, ru⟩ := rr
        cases ru
        simp only [Rep] at rv
        subst rv
        obtain ⟨u, hu, ru⟩ := rw.get hx
        exact ⟨_, mt_popAt, p, ws, i, k, u, rfl, rfl, hH, hl.1, hl.2, by rw [rw.length]; exact q, hu, h p _ _ _ (by rw [ha]; exact List.mem_singleton.mpr rfl) hH ⟨ha, _, upd_same, rw.eraseIdx k⟩ ru⟩
    · rw [if_neg hl] at e; cases e
  · cases e
end

/-! ### iterators -/
def signs (x : Str) : List PV := x.cps.toList.map fun n => PV.str ⟨#[n]⟩
def iStrE (ea : EvE) : EvI := fun env => (ea env).bind fun x e => match look e x with
  | some (.str z) => .ok ⟨signs z, .tr .non⟩ e
  | _ => .bad
/-- a text, a list or a tuple -/
@[simp] def iAny (pn : List Nat) (ea : EvE) : EvI := fun env => (ea env).bind fun x e => match x with
  | .tr (.str z) => .ok ⟨signs z, .tr .non⟩ e
  | .tr (.lst ts) => .ok ⟨ts, .tr .non⟩ e
  | .tr (.tup ts) => .ok ⟨ts, .tr .non⟩ e
  | .sl j => if pn.contains j then (match e[j]? with
    | some (some (.ow (.lst ts))) => .ok ⟨ts, .sl j⟩ e
    | _ => .bad) else .bad
  | _ => .bad
def rangeL (lo : Int) (n : Nat) : List PV := (List.range n).map fun (k : Nat) => PV.int (lo + (k : Int))
@[simp] def iRngA (el : EvA) : EvI := fun env => (el env).bind fun xs e => match looks e xs with
  | some [.int j] => if -1000000000 ≤ j ∧ j ≤ 1000000000 then .ok ⟨rangeL 0 j.toNat, .tr .non⟩ e else .bad
  | _ => .bad
@[simp] def iRngB (el : EvA) : EvI := fun env => (el env).bind fun xs e => match looks e xs with
  | some [.int i, .int j] => if -1000000000 ≤ i ∧ i ≤ 1000000000 ∧ -1000000000 ≤ j ∧ j ≤ 1000000000 then .ok ⟨rangeL i (j - i).toNat, .tr .non⟩ e else .bad
  | _ => .bad
/-- the things with their places -/
def enumL : Nat → List PV → List PV
  | _, [] => []
  | n, t :: ts => .tup [.int n, t] :: enumL (n + 1) ts
def zipP (xs ys : List PV) : List PV := List.zipWith (fun x y => PV.tup [x, y]) xs ys
/-- the arguments: trees that may be walked -/
@[simp] def seqT : PV → Option (List PV)
  | .lst ts => some ts
  | .tup ts => some ts
  | _ => none
def iEnumL (el : EvA) : EvI := fun env => (el env).bind fun xs e => match trees xs with
  | some [.lst ts] => .ok ⟨enumL 0 ts, .tr .non⟩ e
  | _ => .bad
def iZipL (el : EvA) : EvI := fun env => (el env).bind fun xs e => match trees xs with
  | some [.lst ts, .lst us] => .ok ⟨zipP ts us, .tr .non⟩ e
  | some [.tup ts, .tup us] => .ok ⟨zipP ts us, .tr .non⟩ e
  | _ => .bad
section
variable {X : Cx} {c : TC} {r : Ref} {W : WX} {tg e a b : Expr} {ea : EvE} {el : EvA} {pos p : Pos}
theorem itok_str {G : Hp} {x : Vl} {z : Str} (g : StrG z) : ItOk c r G x (signs z) (Its z) := fun i ads G' H σ env R s1 _ => by
  refine ⟨fun t ht => ?_, fun hl => ?_⟩
  · unfold signs at ht
    rw [List.getElem?_map] at ht
    obtain ⟨n, hn, rfl⟩ := map_some ht
    rw [Array.getElem?_toList] at hn
    refine ⟨(Array.getElem?_eq_some_iff.mp hn).1, fun v H' ⟨e, m, hm, ev⟩ => ?_⟩
    subst e; subst ev
    rw [hn] at hm
    cases hm
    exact ⟨G', Step.refl R.sub, rep_str (strG_sub (l := [n]) g (List.singleton_sublist.mpr (by rw [← Array.getElem?_toList] at hn; exact List.mem_of_getElem? hn))) G'⟩
  · have h : z.cps.size ≤ i := by simpa [signs] using hl
    exact h
theorem ti_any {pn : List Nat} (hp : r.pins.map Prod.fst = pn) (hK : X.K = c.K) (ha : PE X e (TEof c r W ea)) : PI X tg e (TIof c r W (iAny pn ea)) := PI.imp (PI.or (pi_str ha) (ti_seq (pn := pn) hp hK ha)) fun σ H R ⟨ads, G, env, R0, h⟩ => by
  have h' := Sat_bind.mp h
  cases q : ea env with
  | bad => rw [q] at h'; exact h'.elim
  | exc x e1 =>
    rw [q] at h'
    exact .inl ⟨ads, G, env, R0, by rw [q]; exact h'⟩
  | ok x e1 =>
    rw [q] at h'
    have other : (∀ z, x ≠ .tr (.str z)) → TIof c r W (iSeq pn ea) σ H R := fun ne => by
      refine ⟨ads, G, env, R0, ?_⟩
      unfold iSeq
      rw [q]
      cases x with
      | sl j => exact h'
      | tr t =>
        cases t with
        | str z => exact absurd rfl (ne z)
        | lst _ => exact h'
        | tup _ => exact h'
        | non => exact h'
        | bl _ => exact h'
        | int _ => exact h'
        | ins _ _ => exact h'
        | dct _ _ => exact h'
        | scr _ => exact h'
        | cls _ => exact h'
        | slc _ _ => exact h'
    cases x with
    | sl j => exact .inr (other fun _ z => nomatch z)
    | tr t =>
      cases t with
      | str z =>
        refine .inl ⟨ads, G, env, R0, ?_⟩
        rw [q]
        intro ads1 G1 H1 v1 R1 s1 p1
        simp only [VRep, Rep] at p1
        obtain ⟨rfl, g⟩ := p1
        exact ⟨z, rfl, h' ads1 G1 H1 _ R1 s1 (itok_str g)⟩
      | _ => exact .inr (other fun _ z => nomatch z)
theorem ti_range1 (hg : Gl X "range") (hm : X.mg "range" = none) (ha : PA X [a] (TAof c r W el)) (hs : starEach [a] X.env = [(false, eval a X.env)] := by rfl) : PI X tg (.Call (.Name "range" p) [a] [] pos) (TIof c r W (iRngA el)) := by
  refine PI.imp (pi_range1 hg hm ha hs) fun σ H R ⟨ads, G, env, R0, h⟩ => ?_
  refine ⟨ads, G, env, R0, Sat_mono (Sat_bind.mp h) (fun xs e1 h1 ads1 G1 H1 vs R1 s1 p1 => ?_) fun _ _ z => z⟩
  cases q : looks e1 xs with
  | none => simp only [q] at h1; exact h1.elim
  | some ts =>
    have w := looks_rep R1 p1 q
    simp only [q] at h1
    split at h1
    · rename_i j e
      cases e
      obtain ⟨v, rfl, rfl⟩ := pair1 w
      by_cases hj : -1000000000 ≤ j ∧ j ≤ 1000000000
      · rw [if_pos hj] at h1
        exact ⟨j, rfl, by omega, by omega, h1 ads1 G1 H1 _ R1 s1 (itok_range (lo := 0))⟩
      · rw [if_neg hj] at h1; exact h1.elim
    · exact h1.elim
theorem ti_range2 (hg : Gl X "range") (hm : X.mg "range" = none) (ha : PA X [a, b] (TAof c r W el)) (hs : starEach [a, b] X.env = [(false, eval a X.env), (false, eval b X.env)] := by rfl) (hs2 : starEach [b] X.env = [(false, eval b X.env)] := by rfl) : PI X tg (.Call (.Name "range" p) [a, b] [] pos) (TIof c r W (iRngB el)) := by
  refine PI.imp (pi_range2 hg hm ha hs hs2) fun σ H R ⟨ads, G, env, R0, h⟩ => ?_
  refine ⟨ads, G, env, R0, Sat_mono (Sat_bind.mp h) (fun xs e1 h1 ads1 G1 H1 vs R1 s1 p1 => ?_) fun _ _ z => z⟩
  cases q : looks e1 xs with
  | none => simp only [q] at h1; exact h1.elim
  | some ts =>
    have w := looks_rep R1 p1 q
    simp only [q] at h1
    split at h1
    · rename_i i j e
      cases e
      obtain ⟨v, u, rfl, rfl, rfl⟩ := pair2 w
      by_cases hj : -1000000000 ≤ i ∧ i ≤ 1000000000 ∧ -1000000000 ≤ j ∧ j ≤ 1000000000
      · rw [if_pos hj] at h1
        exact ⟨i, j, rfl, by omega, h1 ads1 G1 H1 _ R1 s1 itok_range⟩
      · rw [if_neg hj] at h1; exact h1.elim
    · exact h1.elim
theorem enumL_get : ∀ {ts : List PV} {n i : Nat}, (enumL n ts)[i]? = (ts[i]?).map fun t => PV.tup [.int ((n + i : Nat) : Int), t]
  | [], n, i => by simp [enumL]
  | t :: ts, n, 0 => by simp [enumL]
  | t :: ts, n, i + 1 => by
    simp only [enumL, List.getElem?_cons_succ]
    rw [enumL_get]
    have e : n + 1 + i = n + (i + 1) := by omega
    rw [e]
theorem enumL_len : ∀ {ts : List PV} {n : Nat}, (enumL n ts).length = ts.length
  | [], _ => rfl
  | _ :: ts, n => by simp [enumL, enumL_len (ts := ts)]
theorem rep_pair {G H : Hp} {x y : PV} {u v : V} {p : Addr} (s : Sub G H) (hp : H p = none) (h1 : Rep c G x u) (h2 : Rep c G y v) : Step [] H G (upd H p (.tup [u, v])) (upd G p (.tup [u, v])) ∧ Rep c (upd G p (.tup [u, v])) (.tup [x, y]) (.ref p) := by
  have st := Step.alloc (o := .tup [u, v]) s hp
  refine ⟨st, ?_⟩
  simp only [Rep]
  exact ⟨p, _, rfl, .inl (.inl upd_same), RepL.cons (h1.mono st.sub) (RepL.one (h2.mono st.sub))⟩
theorem itok_enum {K : PySem.W.Frag} {G : Hp} {p : Addr} {x : Vl} {ts : List PV} {vs : List V} (h : G p = some (.lst vs)) (rr : RepL c G ts vs) : ItOk c r G x (enumL 0 ts) (Ite K p) := fun i ads G' H σ env R s1 _ => by
  have h' : SqL K H p vs := .inl (.inl (R.sub _ _ (s1 _ _ h)))
  refine ⟨fun t ht => ?_, fun hl => ⟨vs, h', by rw [rr.length]; rw [enumL_len] at hl; exact hl⟩⟩
  rw [enumL_get] at ht
  obtain ⟨t0, h0, rfl⟩ := map_some ht
  obtain ⟨u, hu, ru⟩ := rr.get h0
  refine ⟨⟨vs, u, h', hu⟩, fun v H' ⟨T, w, e1, hT, e2, y⟩ => ?_⟩
  subst e1; subst e2
  have z := y vs h'
  rw [hu] at z; cases z
  have q := rep_pair (x := .int ((0 + i : Nat) : Int)) (u := .int ((i : Nat) : Int)) R.sub hT (by rw [Nat.zero_add]; exact rep_int G') (ru.mono s1)
  exact ⟨_, q⟩
theorem ti_enum {elts : List Expr} {kk : Nat} {tpos : Pos} (hg : Gl X "enumerate") (hm : X.mg "enumerate" = none) (ha : PA X [e] (TAof c r W el)) (hs : starEach [e] X.env = [(false, eval e X.env)] := by rfl) : PI X (.Tuple elts kk tpos) (.Call (.Name "enumerate" p) [e] [] pos) (TIof c r W (iEnumL el)) := by
  refine PI.imp (pi_enum hg hm ha hs) fun σ H R ⟨ads, G, env, R0, h⟩ => ?_
  refine ⟨ads, G, env, R0, Sat_mono (Sat_bind.mp h) (fun xs e1 h1 ads1 G1 H1 vs R1 s1 p1 => ?_) fun _ _ z => z⟩
  cases q : trees xs with
  | none => simp only [q] at h1; exact h1.elim
  | some ts =>
    have rr := trees_rep p1 q
    simp only [q] at h1
    split at h1
    · rename_i us e
      cases e
      obtain ⟨v, u, rfl, rv, ru⟩ := rr
      cases ru
      simp only [Rep] at rv
      obtain ⟨a, ws, rfl, hx, rw⟩ := rv
      exact ⟨a, ws, rfl, .inl (.inl (R1.sub _ _ hx)), h1 ads1 G1 H1 _ R1 s1 (itok_enum hx rw)⟩
    · exact h1.elim
theorem zipP_get {xs ys : List PV} {i : Nat} {t : PV} (h : (zipP xs ys)[i]? = some t) : ∃ x y, xs[i]? = some x ∧ ys[i]? = some y ∧ t = .tup [x, y] := by
  unfold zipP at h
  rw [List.getElem?_zipWith] at h
  cases q1 : xs[i]? with
  | none => rw [q1] at h; cases h
  | some x =>
    rw [q1] at h
    cases q2 : ys[i]? with
    | none => rw [q2] at h; cases h
    | some y => rw [q2] at h; cases h; exact ⟨x, y, rfl, rfl, rfl⟩
theorem itok_zip {K : PySem.W.Frag} {G : Hp} {p q : Addr} {x : Vl} {ts us : List PV} {vs ws : List V} (h : G p = some (.lst vs)) (h2 : G q = some (.lst ws)) (rr : RepL c G ts vs) (rs : RepL c G us ws) : ItOk c r G x (zipP ts us) (Itz K p q) := fun i ads G' H σ env R s1 _ => by
  have h' : SqL K H p vs := .inl (.inl (R.sub _ _ (s1 _ _ h)))
  have h2' : SqL K H q ws := .inl (.inl (R.sub _ _ (s1 _ _ h2)))
  refine ⟨fun t ht => ?_, fun hl => ⟨vs, ws, h', h2', ?_⟩⟩
  · obtain ⟨a, b, ha, hb, rfl⟩ := zipP_get ht
    obtain ⟨u, hu, ru⟩ := rr.get ha
    obtain ⟨u2, hu2, ru2⟩ := rs.get hb
    refine ⟨⟨vs, ws, u, u2, h', h2', hu, hu2⟩, fun v H' ⟨T, w1, w2, e1, hT, e2, y1, y2⟩ => ?_⟩
    subst e1; subst e2
    have z := y1 vs h'
    rw [hu] at z; cases z
    have z := y2 ws h2'
    rw [hu2] at z; cases z
    exact ⟨_, rep_pair R.sub hT (ru.mono s1) (ru2.mono s1)⟩
  · unfold zipP at hl
    rw [List.length_zipWith] at hl
    rw [rr.length, rs.length]
    omega
theorem itok_zipT {G : Hp} {p q : Addr} {x : Vl} {ts us : List PV} {vs ws : List V} (h : SqT c.K G p vs) (h2 : SqT c.K G q ws) (rr : RepL c G ts vs) (rs : RepL c G us ws) : ItOk c r G x (zipP ts us) (RZ.ItzT c.K p q) := fun i ads G' H σ env R s1 _ => by
  have h' := R.sub.sqT (s1.sqT h)
  have h2' := R.sub.sqT (s1.sqT h2)
  refine ⟨fun t ht => ?_, fun hl => ⟨vs, ws, h', h2', ?_⟩⟩
  · obtain ⟨a, b, ha, hb, rfl⟩ := zipP_get ht
    obtain ⟨u, hu, ru⟩ := rr.get ha
    obtain ⟨u2, hu2, ru2⟩ := rs.get hb
    refine ⟨⟨vs, ws, u, u2, h', h2', hu, hu2⟩, fun v H' ⟨T, w1, w2, e1, hT, e2, y1, y2⟩ => ?_⟩
    subst e1; subst e2
    have z := y1 vs h'
    rw [hu] at z; cases z
    have z := y2 ws h2'
    rw [hu2] at z; cases z
    exact ⟨_, rep_pair R.sub hT (ru.mono s1) (ru2.mono s1)⟩
  · unfold zipP at hl
    rw [List.length_zipWith] at hl
    rw [rr.length, rs.length]
    omega
theorem ti_zip {elts : List Expr} {kk : Nat} {tpos : Pos} (hK : X.K = c.K) (hg : Gl X "zip") (hm : X.mg "zip" = none) (ha : PA X [a, b] (TAof c r W el)) (hs : starEach [a, b] X.env = (false, eval a X.env) :: starEach [b] X.env := by rfl) (hpl : (backTo pos (starEach [b] X.env)).any (·.1) = false := by rfl) :
    PI X (.Tuple elts kk tpos) (.Call (.Name "zip" p) [a, b] [] pos) (TIof c r W (iZipL el)) := by
  refine PI.imp (RZ.pi_zipA hg hm ha hs hpl) fun σ H R ⟨ads, G, env, R0, h⟩ => ?_
  refine ⟨ads, G, env, R0, Sat_mono (Sat_bind.mp h) (fun xs e1 h1 ads1 G1 H1 vs R1 s1 p1 => ?_) fun _ _ z => z⟩
  cases q : trees xs with
  | none => simp only [q] at h1; exact h1.elim
  | some ts =>
    have rr := trees_rep p1 q
    simp only [q] at h1
    split at h1
    · rename_i us ws e
      cases e
      obtain ⟨v, u, rfl, rv, v2, u2, rfl, rv2, ru⟩ := rr
      cases ru
      simp only [Rep] at rv rv2
      obtain ⟨b1, ws1, rfl, hx, rw1⟩ := rv
      obtain ⟨b2, ws2, rfl, hx2, rw2⟩ := rv2
      exact ⟨b1, b2, ws1, ws2, rfl, .inl ⟨.inl (.inl (R1.sub _ _ hx)), .inl (.inl (R1.sub _ _ hx2)), h1 ads1 G1 H1 _ R1 s1 (itok_zip hx hx2 rw1 rw2)⟩⟩
    · rename_i us ws e
      cases e
      obtain ⟨v, u, rfl, rv, v2, u2, rfl, rv2, ru⟩ := rr
      cases ru
      simp only [Rep] at rv rv2
      obtain ⟨b1, ws1, rfl, hx, rw1⟩ := rv
      obtain ⟨b2, ws2, rfl, hx2, rw2⟩ := rv2
      refine ⟨b1, b2, ws1, ws2, rfl, .inr ⟨by rw [hK]; exact R1.sub.sqT hx, by rw [hK]; exact R1.sub.sqT hx2, ?_⟩⟩
      rw [hK]
      exact h1 ads1 G1 H1 _ R1 s1 (itok_zipT hx hx2 rw1 rw2)
    · exact h1.elim
end

/-! ### comprehensions -/
section
variable {X : Cx} {c : TC} {r : Ref} {W : WX} {elt tg iter : Expr} {ifs : List Expr} {scope : Scope} {own : List (Str × Nat)} {pos : Pos} {ev : EvI} {us : List Nat} {g : Tg} {et : EvT} {ea : EvE}
theorem pf_lc (hc : X.calm = true) (hN : X.N.Nodup) (hp : ∀ j ∈ own.map (·.2), (r.pins.map Prod.fst).contains j = false) (hu : ∀ j ∈ us, j ∈ own.map (·.2)) (hi : PI X tg iter (TIof c r W ev)) (ok : BlkOk X.N X.env.scope scope own)
    (hg : ∀ (s : Shared) (H : Hp) (C : Addr) (cl : List (Str × Addr)) (fp : List Addr), PG (X.blk s H scope (compEnvC scope cl C X.env) fp) tg (TGof c r us g)) (ht : ∀ (s : Shared) (H : Hp) (C : Addr) (cl : List (Str × Addr)) (fp : List Addr), PTs (X.blk s H scope (compEnvC scope cl C X.env) fp) ifs (TTof c r W0 et))
    (he : ∀ (s : Shared) (H : Hp) (C : Addr) (cl : List (Str × Addr)) (fp : List Addr), PE (X.blk s H scope (compEnvC scope cl C X.env) fp) elt (TEof c r W0 ea)) (hs : ∀ x, foldedSetIterable iter X.env x = pure x := by intro _; rfl) :
    PE X (.ListComp elt [⟨tg, iter, ifs, 0⟩] scope pos) (TFof c r W (fComp ev g et ea (own.map (·.2)))) := PE.imp (pe_lc hc hN hi ok hg ht he hs) fun _ _ _ h => lc_imp hp hu h
/-- y = [..] on one line -/
theorem ts_ownLc {i : Nat} {y : Str} {py spos : Pos} (hc : X.calm = true) (hN : X.N.Nodup) (hy : X.N[i]? = some y) (hyl : X.env.scope.names.lookup y = some .local) (hpi : (r.pins.map Prod.fst).contains i = false)
    (hsw : swapsWith (.ListComp elt [⟨tg, iter, ifs, 0⟩] scope pos) (some (.Name y py)) spos.line X.env = pure true) (hp : ∀ j ∈ own.map (·.2), (r.pins.map Prod.fst).contains j = false) (hu : ∀ j ∈ us, j ∈ own.map (·.2)) (hi : PI X tg iter (TIof c r W ev)) (ok : BlkOk X.N X.env.scope scope own)
    (hg : ∀ (s : Shared) (H : Hp) (C : Addr) (cl : List (Str × Addr)) (fp : List Addr), PG (X.blk s H scope (compEnvC scope cl C X.env) fp) tg (TGof c r us g)) (ht : ∀ (s : Shared) (H : Hp) (C : Addr) (cl : List (Str × Addr)) (fp : List Addr), PTs (X.blk s H scope (compEnvC scope cl C X.env) fp) ifs (TTof c r W0 et))
    (he : ∀ (s : Shared) (H : Hp) (C : Addr) (cl : List (Str × Addr)) (fp : List Addr), PE (X.blk s H scope (compEnvC scope cl C X.env) fp) elt (TEof c r W0 ea)) (hs : ∀ x, foldedSetIterable iter X.env x = pure x := by intro _; rfl) :
    PS X (.Assign [.Name y py] (.ListComp elt [⟨tg, iter, ifs, 0⟩] scope pos) spos) (TSof c r W (sOwn i (fComp ev g et ea (own.map (·.2))))) := PS.imp (ps_setLc hc hN hy hyl hsw hi ok hg ht he hs) fun D σ H ⟨ads, G, env, R, h⟩ => by
  have z := own_imp hpi (ef := fComp ev g et ea (own.map (·.2))) ⟨ads, G, env, R, h⟩
  exact lc_imp hp hu z
theorem set_imp {ea : EvE} {i : Nat} (hp : (r.pins.map Prod.fst).contains i = false) {D : Ends} {σ : L2.St} {H : Hp} (h : TSof c r W (sAsg ea (gNm i)) D σ H) : tAsg (TEof c r W ea) (gName i) D σ H := by
  obtain ⟨ads, G, env, R, h⟩ := h
  refine ⟨ads, G, env, R, Sat_mono (RE.so_Sat.mp h) (fun x e1 h1 ads1 G1 H1 v1 R1 s1 p1 => ?_) fun x e z => XC.of z⟩
  cases x with
  | sl i => exact h1.elim
  | tr t => exact h1 _ G1 H1 _ (R1.set p1 hp) s1.sub
theorem of_imp {ef : EvF} {σ : L2.St} {H : Hp} {Q : VK} (h : TEof c r W (eOf ef) σ H Q) : TFof c r W ef σ H Q := by
  obtain ⟨ads, G, env, R, h⟩ := h
  refine ⟨ads, G, env, R, Sat_mono (Sat_bind.mp h) (fun o e1 h1 ads1 G1 H1 p1 ad R1 s1 ow nw => ?_) fun _ _ z => z⟩
  cases q : o.tree with
  | none => simp only [q] at h1; exact h1.elim
  | some t =>
    simp only [q] at h1
    obtain ⟨ho, hp⟩ := ow.one q
    have n1 := nw p1 (by rw [ow.ad q]; exact List.mem_singleton.mpr rfl)
    obtain ⟨s2, R2⟩ := R1.know hp n1.1
    exact h1 ads1 _ H1 (.ref p1) R2 (s1.fresh n1.1.1 n1.2) (ow.known q hp s2)
theorem ts_setLc {i : Nat} {y : Str} {py spos : Pos} (hc : X.calm = true) (hN : X.N.Nodup) (hy : X.N[i]? = some y) (hyl : X.env.scope.names.lookup y = some .local) (hpi : (r.pins.map Prod.fst).contains i = false)
    (hsw : swapsWith (.ListComp elt [⟨tg, iter, ifs, 0⟩] scope pos) (some (.Name y py)) spos.line X.env = pure true) (hp : ∀ j ∈ own.map (·.2), (r.pins.map Prod.fst).contains j = false) (hu : ∀ j ∈ us, j ∈ own.map (·.2)) (hi : PI X tg iter (TIof c r W ev)) (ok : BlkOk X.N X.env.scope scope own)
    (hg : ∀ (s : Shared) (H : Hp) (C : Addr) (cl : List (Str × Addr)) (fp : List Addr), PG (X.blk s H scope (compEnvC scope cl C X.env) fp) tg (TGof c r us g)) (ht : ∀ (s : Shared) (H : Hp) (C : Addr) (cl : List (Str × Addr)) (fp : List Addr), PTs (X.blk s H scope (compEnvC scope cl C X.env) fp) ifs (TTof c r W0 et))
    (he : ∀ (s : Shared) (H : Hp) (C : Addr) (cl : List (Str × Addr)) (fp : List Addr), PE (X.blk s H scope (compEnvC scope cl C X.env) fp) elt (TEof c r W0 ea)) (hs : ∀ x, foldedSetIterable iter X.env x = pure x := by intro _; rfl) :
    PS X (.Assign [.Name y py] (.ListComp elt [⟨tg, iter, ifs, 0⟩] scope pos) spos) (TSof c r W (sAsg (eOf (fComp ev g et ea (own.map (·.2)))) (gNm i))) := PS.imp (ps_setLc hc hN hy hyl hsw hi ok hg ht he hs) fun D σ H h =>
  lc_imp hp hu (of_imp (set_imp hpi h))
end

/-! ### a op1 b op2 c -/
@[simp] def eChn (f f' : PV → PV → Option PV) (ea eb ec : EvE) : EvE := fun env => (ea env).bind fun a e1 => (eb e1).bind fun b e2 =>
  match look e2 a, look e2 b with
  | some x, some y => (match f x y with
    | some (.bl true) => (ec e2).bind fun z e3 => (match look e3 b, look e3 z with
      | some y, some z => (ofO (f' y z) e3).bind fun t e => .ok (.tr t) e
      | _, _ => .bad)
    | some (.bl false) => .ok (.tr (.bl false)) e2
    | _ => .bad)
  | _, _ => .bad
section
variable {X : Cx} {c : TC} {r : Ref} {W : WX} {a b d : Expr} {ea eb ec : EvE} {pos : Pos}
theorem chn_imp {op op' : CmpOp} {f f' : PV → PV → Option PV} (ho : OpP X c (compareOp op) f) (ho' : OpP X c (compareOp op') f') {σ : L2.St} {H : Hp} {Q : VK} (h : TEof c r W (eChn f f' ea eb ec) σ H Q) :
    tChain (rAny2 X (compareOp op)) (rAny2 X (compareOp op')) (TEof c r W ea) (TEof c r W eb) (TEof c r W ec) σ H Q := by
  obtain ⟨ads, G, env, R, h⟩ := h
  refine ⟨ads, G, env, R, Sat_mono (Sat_bind.mp h) (fun x e1 h1 ads1 G1 H1 v1 R1 s1 p1 => ?_) fun _ _ z => z⟩
  refine ⟨ads1, G1, e1, R1, Sat_mono (Sat_bind.mp h1) (fun y e2 h2 ads2 G2 H2 v2 R2 s2 p2 => ?_) fun x e z => z.weak s1.sub⟩
  cases q1 : look e2 x with
  | none => simp only [q1] at h2; exact h2.elim
  | some t1 =>
    cases q2 : look e2 y with
    | none => simp only [q1, q2] at h2; exact h2.elim
    | some t2 =>
      simp only [q1, q2] at h2
      cases q3 : f t1 t2 with
      | none => simp only [q3] at h2; exact h2.elim
      | some t =>
        cases t with
        | bl k =>
          refine ho G2 H2 t1 t2 (.bl k) v1 v2 _ q3 R2.sub (look_rep R2 (p1.mono s2.sub) q1) (look_rep R2 p2 q2) fun v H' G' st p => ?_
          simp only [Rep] at p
          subst p
          refine ⟨k, rfl, ?_⟩
          have R3 := R2.next st
          cases k with
          | false =>
            simp only [q3] at h2
            exact iteF (h2 ads2 G' H' (.bl false) R3 ((s1.trans s2).trans (Nxt.of st)) (rep_bl (c := c) G'))
          | true =>
            simp only [q3] at h2
            refine iteT ⟨ads2, G', e2, R3, Sat_mono (Sat_bind.mp h2) (fun z e3 h3 ads3 G3 H3 v3 R4 s3 p3 => ?_) fun x e z => z.weak (s1.sub.trans (s2.sub.trans st.sub))⟩
            cases q4 : look e3 y with
            | none => simp only [q4] at h3; exact h3.elim
            | some t2' =>
              cases q5 : look e3 z with
              | none => simp only [q4, q5] at h3; exact h3.elim
              | some t3 =>
                simp only [q4, q5] at h3
                obtain ⟨t, ht, h4⟩ := Sat_ofO.mp (Sat_bind.mp h3)
                exact ho' G3 H3 t2' t3 t v2 v3 Q ht R4.sub (look_rep R4 (p2.mono (st.sub.trans s3.sub)) q4) (look_rep R4 p3 q5) fun v H' G' st' p => h4 ads3 G' H' v (R4.next st') ((((s1.trans s2).trans (Nxt.of st)).trans s3).trans (Nxt.of st')) p
        | _ => simp only [q3] at h2; exact h2.elim
theorem pt_chain {op op' : CmpOp} {f f' : PV → PV → Option PV} (ho : OpP X c (compareOp op) f) (ho' : OpP X c (compareOp op') f') (ha : PE X a (TEof c r W ea)) (hb : PE X b (TEof c r W eb)) (hd : PE X d (TEof c r W ec)) (hm : lastMarks [op, op'] [b, d] = false := by with_unfolding_all rfl) :
    PE X (.Compare a [op, op'] [b, d] pos) (TEof c r W (eChn f f' ea eb ec)) := PE.imp (pe_chain opAny opAny ha hb hd hm) fun _ _ _ h => chn_imp ho ho' h
@[simp] def tOfE (ea : EvE) : EvT := fun env => (ea env).bind fun x e => match look e x with
  | some (.bl k) => .ok k e
  | _ => .bad
theorem tt_chain {op op' : CmpOp} {f f' : PV → PV → Option PV} (ho : OpP X c (compareOp op) f) (ho' : OpP X c (compareOp op') f') (ha : PE X a (TEof c r W ea)) (hb : PE X b (TEof c r W eb)) (hd : PE X d (TEof c r W ec)) (hm : lastMarks [op, op'] [b, d] = false := by with_unfolding_all rfl) :
    PT X (.Compare a [op, op'] [b, d] pos) (TTof c r W (tOfE (eChn f f' ea eb ec))) := PT.imp (L2.pt_chain opAny opAny ha hb hd hm) fun σ H Q ⟨ads, G, env, R, h⟩ => by
  refine chn_imp ho ho' ⟨ads, G, env, R, Sat_mono (Sat_bind.mp h) (fun x e1 h1 ads1 G1 H1 v1 R1 s1 p1 => ?_) fun _ _ z => z⟩
  cases q : look e1 x with
  | none => simp only [q] at h1; exact h1.elim
  | some t =>
    have w := look_rep R1 p1 q
    cases t with
    | bl k =>
      simp only [q] at h1
      cases w
      exact ⟨k, rfl, h1 ads1 G1 H1 R1 s1⟩
    | _ => simp only [q] at h1; exact h1.elim
end
end TreeL
end
section
/-! TL10: several new things at once, x, y = a, b; isinstance; match. -/
namespace TreeL
open PySem PySem.Spec PyProof.Rows L2

/-! ### several results -/
abbrev EvB := En → RE (List Arg)
def ResAd (c : TC) (r : Ref) (ads' : Nat → List Addr) (G' H H' : Hp) (ad : List Addr) : Arg → V → Prop
  | .t t, v => ad = [] ∧ Rep c G' t v
  | .ow o, v => ∃ p, v = .ref p ∧ OwRep c G' H' p ad o ∧ ∀ a ∈ ad, New r ads' G' a ∧ H a = none
def NewL (c : TC) (r : Ref) (ads' : Nat → List Addr) (G' H H' : Hp) : List (List Addr) → List Arg → List V → Prop
  | [], [], [] => True
  | ad :: adl, a :: as, v :: vs => ResAd c r ads' G' H H' ad a v ∧ (∀ x ∈ ad, x ∉ adl.flatten) ∧ NewL c r ads' G' H H' adl as vs
  | _, _, _ => False
def TBof (c : TC) (r : Ref) (W : WX) (ev : EvB) : TA := fun σ H Q => ∃ ads G env, RS c r ads G H σ env ∧
  (ev env).Sat (fun as env' => ∀ ads' G' H' adl vs, RS c r ads' G' H' σ env' → Nxt ads G H ads' G' H' → NewL c r ads' G' H H' adl as vs → Q vs H') (XC c r W G σ)
@[simp] def bNil : EvB := fun env => .ok [] env
@[simp] def bCons (er : EvR) (eb : EvB) : EvB := fun env => (er env).bind fun a e1 => (eb e1).bind fun as e2 => .ok (a :: as) e2
@[simp] def rTree (ea : EvE) : EvR := fun env => (ea env).bind fun x e => match x with
  | .tr t => .ok (.t t) e
  | .sl _ => .bad
@[simp] def rOwn (ef : EvF) : EvR := fun env => (ef env).bind fun o e => .ok (.ow o) e
section
variable {X : Cx} {c : TC} {r : Ref} {W : WX} {a b e : Expr} {as es : List Expr} {ea : EvE} {ef : EvF} {er : EvR} {eb : EvB} {pos : Pos}
theorem tr_tree (h : PE X e (TEof c r W ea)) : PE X e (TRof c r W (rTree ea)) := PE.imp h fun σ H Q ⟨ads, G, env, R, h⟩ => by
  refine ⟨ads, G, env, R, Sat_mono (Sat_bind.mp h) (fun x e1 h1 ads1 G1 H1 v1 R1 s1 p1 => ?_) fun _ _ z => z⟩
  cases x with
  | sl i => exact h1.elim
  | tr t => exact h1 ads1 G1 H1 v1 R1 s1 p1
theorem tr_own (h : PE X e (TFof c r W ef)) : PE X e (TRof c r W (rOwn ef)) := PE.imp h fun σ H Q ⟨ads, G, env, R, h⟩ =>
  ⟨ads, G, env, R, Sat_mono (Sat_bind.mp h) (fun o e1 h1 ads1 G1 H1 p1 ad R1 s1 ow nw => h1 ads1 G1 H1 (.ref p1) R1 s1 ⟨p1, ad, rfl, ow, nw⟩) fun _ _ z => z⟩
theorem tb_nil : PA X [] (TBof c r W bNil) := PA.imp pa_nil fun σ H Q ⟨ads, G, env, R, h⟩ => h ads G H [] [] R (Nxt.refl _ _ _) trivial
theorem OwRep.on {G G1 H H1 : Hp} {p : Addr} {ad : List Addr} {o : OS} (s : Sub G G1) (h : OwRep c G H p ad o) (k : ∀ a ∈ ad, ∀ u, H a = some u → H1 a = some u) : OwRep c G1 H1 p ad o := by
  have z : SlotRep c G H ad (some (.ow o)) (some (.ref p)) := ⟨p, rfl, h⟩
  obtain ⟨q, e, w⟩ := z.stay s k
  cases e
  exact w
theorem tb_cons (ha : PE X e (TRof c r W er)) (hr : PA X es (TBof c r W eb)) (hs : starEach (e :: es) X.env = (false, eval e X.env) :: starEach es X.env := by rfl) : PA X (e :: es) (TBof c r W (bCons er eb)) :=
  PA.imp (pa_cons ha hr hs) fun σ H Q ⟨ads, G, env, R, h⟩ => by
    refine ⟨ads, G, env, R, Sat_mono (Sat_bind.mp h) (fun x e1 h1 ads1 G1 H1 v1 R1 s1 p1 => ?_) fun _ _ z => z⟩
    refine ⟨ads1, G1, e1, R1, Sat_mono (Sat_bind.mp h1) (fun xs e2 h2 ads2 G2 H2 adl vs R2 s2 p2 => ?_) fun x e z => z.weak s1.sub⟩
    cases x with
    | t t => 
      refine h2 ads2 G2 H2 ([] :: adl) (v1 :: vs) R2 (s1.trans s2) ⟨⟨rfl, Rep.mono s2.sub p1⟩, (fun _ z => nomatch z), ?_⟩
      have key : ∀ {adl : List (List Addr)} {as : List Arg} {vs : List V}, NewL c r ads2 G2 H1 H2 adl as vs → NewL c r ads2 G2 H H2 adl as vs := fun {adl} => by
        induction adl with
        | nil => intro as vs h; cases as <;> cases vs <;> exact h
        | cons ad adl ih =>
          intro as vs h
          cases as with
          | nil => exact h.elim
          | cons a as =>
            cases vs with
            | nil => exact h.elim
            | cons v vs =>
              refine ⟨?_, h.2.1, ih h.2.2⟩
              cases a with
              | t t => exact h.1
              | ow o =>
                obtain ⟨p, e0, ow, nw⟩ := h.1
                exact ⟨p, e0, ow, fun b hb => ⟨(nw b hb).1, s1.there b (nw b hb).2⟩⟩
      exact key p2
    | ow o =>
      obtain ⟨p, ad, e0, ow, nw⟩ := p1
      have hold : ∀ b ∈ ad, ∃ u, H1 b = some u ∧ H2 b = some u ∧ (∀ j, b ∉ ads2 j) ∧ G2 b = none := fun b hb => by
        obtain ⟨u, hu⟩ := ow.has b hb
        obtain ⟨z1, z2, z3⟩ := s2.hold b u hu (nw b hb).1.2.2
        exact ⟨u, hu, z1, z2, z3 (nw b hb).1.1⟩
      have ow2 : OwRep c G2 H2 p ad o := ow.on s2.sub fun b hb u hu => by
        obtain ⟨u', h1', h2', _⟩ := hold b hb
        rw [hu] at h1'; cases h1'
        exact h2'
      have key : ∀ {adl : List (List Addr)} {as : List Arg} {vs : List V}, NewL c r ads2 G2 H1 H2 adl as vs → NewL c r ads2 G2 H H2 adl as vs ∧ ∀ x ∈ adl.flatten, H1 x = none := fun {adl} => by
        induction adl with
        | nil => intro as vs h; cases as <;> cases vs <;> exact ⟨h, (fun _ z => nomatch z)⟩
        | cons ad adl ih =>
          intro as vs h
          cases as with
          | nil => exact h.elim
          | cons a as =>
            cases vs with
            | nil => exact h.elim
            | cons v vs =>
              obtain ⟨k1, k2⟩ := ih h.2.2
              cases a with
              | t t =>
                refine ⟨⟨h.1, h.2.1, k1⟩, fun x hx => ?_⟩
                rw [List.flatten_cons, h.1.1, List.nil_append] at hx
                exact k2 x hx
              | ow o =>
                obtain ⟨p, e0, ow, nw⟩ := h.1
                refine ⟨⟨⟨p, e0, ow, fun b hb => ⟨(nw b hb).1, s1.there b (nw b hb).2⟩⟩, h.2.1, k1⟩, fun x hx => ?_⟩
                rw [List.flatten_cons] at hx
                rcases List.mem_append.mp hx with z | z
                · exact (nw x z).2
                · exact k2 x z
      obtain ⟨k1, k2⟩ := key p2
      refine h2 ads2 G2 H2 (ad :: adl) (v1 :: vs) R2 (s1.trans s2) ⟨⟨p, e0, ow2, fun b hb => ?_⟩, fun x hx hm => ?_, k1⟩
      · obtain ⟨u, h1', h2', z2, z3⟩ := hold b hb
        exact ⟨⟨z3, (nw b hb).1.2.1, z2⟩, (nw b hb).2⟩
      · obtain ⟨u, h1', _⟩ := hold x hx
        rw [k2 x hm] at h1'; cases h1'
/-- a result is stored in a slot -/
theorem RS.put {ads : Nat → List Addr} {G H0 H : Hp} {σ : L2.St} {env : En} {i : Nat} {x : Arg} {v : V} {ad : List Addr} (R : RS c r ads G H σ env) (h : ResAd c r ads G H0 H ad x v) (hp : (r.pins.map Prod.fst).contains i = false) (hi : i < env.length) :
    RS c r (fun j => if j = i then ad else ads j) G H (σ.set i (some v)) (env.set i (some x)) := by
  cases x with
  | t t =>
    obtain ⟨rfl, h⟩ := h
    exact R.set h hp
  | ow o =>
    obtain ⟨p, rfl, ow, nw⟩ := h
    exact R.setOwn ow (fun a ha => (nw a ha).1) hp hi
theorem ResAd.put {ads : Nat → List Addr} {G H0 H : Hp} {x : Arg} {v : V} {ad ad' : List Addr} {i : Nat} (h : ResAd c r ads G H0 H ad x v) (no : ∀ a ∈ ad, a ∉ ad') : ResAd c r (fun j => if j = i then ad' else ads j) G H0 H ad x v := by
  cases x with
  | t t => exact h
  | ow o =>
    obtain ⟨p, rfl, ow, nw⟩ := h
    refine ⟨p, rfl, ow, fun a ha => ⟨⟨(nw a ha).1.1, (nw a ha).1.2.1, fun j hj => ?_⟩, (nw a ha).2⟩⟩
    have hj' : a ∈ (if j = i then ad' else ads j) := hj
    by_cases q : j = i
    · rw [if_pos q] at hj'; exact no a ha hj'
    · rw [if_neg q] at hj'; exact (nw a ha).1.2.2 j hj'
/-- x, y = a, b -/
@[simp] def sPar (i j : Nat) (eb : EvB) : EvS := fun env => (eb env).so fun as e => match as with
  | [x, y] => if i < e.length ∧ j < e.length then .nx ((e.set i (some x)).set j (some y)) else .bad
  | _ => .bad
theorem ts_par {i j : Nat} {x y : Str} {px py pt pt2 : Pos} {kt k2 : Nat} (hc : X.calm = true) (hN : X.N.Nodup) (hi : X.N[i]? = some x) (hj : X.N[j]? = some y) (hij : i ≠ j) (hx : X.env.scope.names.lookup x = some .local) (hy : X.env.scope.names.lookup y = some .local)
    (hpi : (r.pins.map Prod.fst).contains i = false) (hpj : (r.pins.map Prod.fst).contains j = false) (ha : PA X [a, b] (TBof c r W eb)) (hw : swappedStores [.Tuple [.Name x px, .Name y py] kt pt] (.Tuple [a, b] k2 pt2) X.env = pure (some [x, y]) := by rfl)
    (hs : swapsWithSole [.Tuple [.Name x px, .Name y py] kt pt] (.Tuple [a, b] k2 pt2) pos.line X.env = pure false := by rfl) : PS X (.Assign [.Tuple [.Name x px, .Name y py] kt pt] (.Tuple [a, b] k2 pt2) pos) (TSof c r W (sPar i j eb)) :=
  PS.imp (ps_par hc hN hi hj hij hx hy ha hw hs) fun D σ H ⟨ads, G, env, R, h⟩ => by
    refine ⟨ads, G, env, R, Sat_mono (RE.so_Sat.mp h) (fun as e1 h1 ads1 G1 H1 adl vs R1 s1 nl => ?_) fun x e z => XC.of z⟩
    match as, adl, vs, nl, h1 with
    | [u, w], [ad1, ad2], [v1, v2], nl, h1 =>
      refine ⟨v1, v2, rfl, ?_⟩
      have h1' : (if i < e1.length ∧ j < e1.length then SO.nx ((e1.set i (some u)).set j (some w)) else .bad).Sat (Kof c r W G D) := h1
      by_cases l : i < e1.length ∧ j < e1.length
      · rw [if_pos l] at h1'
        have R2 := R1.put nl.1 hpi l.1
        have q : ResAd c r (fun k => if k = i then ad1 else ads1 k) G1 H H1 ad2 w v2 := nl.2.2.1.put fun a ha hb => nl.2.1 a hb (by simpa using ha)
        have R3 := R2.put q hpj (by rw [List.length_set]; exact l.2)
        exact h1' _ G1 H1 _ R3 s1.sub
      · rw [if_neg l] at h1'; exact h1'.elim
    | [], _, _, _, h1 => exact h1.elim
    | [_], _, _, _, h1 => exact h1.elim
    | _ :: _ :: _ :: _, _, _, _, h1 => exact h1.elim
    | [_, _], [], _, nl, _ => exact nl.elim
    | [_, _], [_], [], nl, _ => exact nl.elim
    | [_, _], [_], _ :: _, nl, _ => exact nl.2.2.elim
    | [_, _], _ :: _ :: _ :: _, [], nl, _ => exact nl.elim
    | [_, _], _ :: _ :: _ :: _, [_], nl, _ => exact nl.2.2.elim
    | [_, _], _ :: _ :: _ :: _, [_, _], nl, _ => exact nl.2.2.2.2.elim
    | [_, _], _ :: _ :: _ :: _, _ :: _ :: _ :: _, nl, _ => exact nl.2.2.2.2.elim
    | [_, _], [_, _], [], nl, _ => exact nl.elim
    | [_, _], [_, _], [_], nl, _ => exact nl.2.2.elim
    | [_, _], [_, _], _ :: _ :: _ :: _, nl, _ => exact nl.2.2.2.2.elim
/-- x, y, z = a, b, c -/
@[simp] def sPar3 (i j k : Nat) (eb : EvB) : EvS := fun env => (eb env).so fun as e => match as with
  | [x, y, z] => if i < e.length ∧ j < e.length ∧ k < e.length then .nx (((e.set i (some x)).set j (some y)).set k (some z)) else .bad
  | _ => .bad
theorem NewL.three {ads : Nat → List Addr} {G H0 H : Hp} {u v w : Arg} : ∀ {adl : List (List Addr)} {vs : List V}, NewL c r ads G H0 H adl [u, v, w] vs → ∃ a1 a2 a3 v1 v2 v3, adl = [a1, a2, a3] ∧ vs = [v1, v2, v3] ∧ ResAd c r ads G H0 H a1 u v1 ∧ ResAd c r ads G H0 H a2 v v2 ∧ ResAd c r ads G H0 H a3 w v3 ∧ (∀ x ∈ a1, x ∉ a2 ∧ x ∉ a3) ∧ ∀ x ∈ a2, x ∉ a3 := fun {adl vs} nl => by
  match adl, vs, nl with
  | [a1, a2, a3], [v1, v2, v3], nl =>
    refine ⟨a1, a2, a3, v1, v2, v3, rfl, rfl, nl.1, nl.2.2.1, nl.2.2.2.2.1, fun x hx => ?_, fun x hx => ?_⟩
    · have z := nl.2.1 x hx
      simp only [List.flatten_cons, List.flatten_nil, List.append_nil, List.mem_append, not_or] at z
      exact z
    · have z := nl.2.2.2.1 x hx
      simpa using z
  | [], vs', nl => cases vs' <;> exact nl.elim
  | [_], [], nl => exact nl.elim
  | [_], _ :: vs', nl => cases vs' <;> exact nl.2.2.elim
  | [_, _], [], nl => exact nl.elim
  | [_, _], [_], nl => exact nl.2.2.elim
  | [_, _], _ :: _ :: vs', nl => cases vs' <;> exact nl.2.2.2.2.elim
  | [_, _, _], [], nl => exact nl.elim
  | [_, _, _], [_], nl => exact nl.2.2.elim
  | [_, _, _], [_, _], nl => exact nl.2.2.2.2.elim
  | [_, _, _], _ :: _ :: _ :: _ :: _, nl => exact nl.2.2.2.2.2.2.elim
  | _ :: _ :: _ :: _ :: _, [], nl => exact nl.elim
  | _ :: _ :: _ :: _ :: _, [_], nl => exact nl.2.2.elim
  | _ :: _ :: _ :: _ :: _, [_, _], nl => exact nl.2.2.2.2.elim
  | _ :: _ :: _ :: _ :: _, _ :: _ :: _ :: vs', nl => cases vs' <;> exact nl.2.2.2.2.2.2.elim
theorem ts_par3 {i j k : Nat} {x y z : Str} {d : Expr} {px py pz pt pt2 : Pos} {kt k2 : Nat} (hc : X.calm = true) (hN : X.N.Nodup) (hi : X.N[i]? = some x) (hj : X.N[j]? = some y) (hk : X.N[k]? = some z) (hij : i ≠ j) (hik : i ≠ k) (hjk : j ≠ k) (hx : X.env.scope.names.lookup x = some .local) (hy : X.env.scope.names.lookup y = some .local) (hz : X.env.scope.names.lookup z = some .local)
    (hpi : (r.pins.map Prod.fst).contains i = false) (hpj : (r.pins.map Prod.fst).contains j = false) (hpk : (r.pins.map Prod.fst).contains k = false) (ha : PA X [a, b, d] (TBof c r W eb))
    (hw : swappedStores [.Tuple [.Name x px, .Name y py, .Name z pz] kt pt] (.Tuple [a, b, d] k2 pt2) X.env = pure (some [x, y, z]) := by rfl)
    (hs : swapsWithSole [.Tuple [.Name x px, .Name y py, .Name z pz] kt pt] (.Tuple [a, b, d] k2 pt2) pos.line X.env = pure false := by rfl) : PS X (.Assign [.Tuple [.Name x px, .Name y py, .Name z pz] kt pt] (.Tuple [a, b, d] k2 pt2) pos) (TSof c r W (sPar3 i j k eb)) :=
  PS.imp (ps_par3 hc hN hi hj hk hij hik hjk hx hy hz ha hw hs) fun D σ H ⟨ads, G, env, R, h⟩ => by
    refine ⟨ads, G, env, R, Sat_mono (RE.so_Sat.mp h) (fun as e1 h1 ads1 G1 H1 adl vs R1 s1 nl => ?_) fun x e z => XC.of z⟩
    match as, nl, h1 with
    | [u, v, w], nl, h1 =>
      obtain ⟨a1, a2, a3, v1, v2, v3, rfl, rfl, n1, n2, n3, no1, no2⟩ := nl.three
      refine ⟨v1, v2, v3, rfl, ?_⟩
      have h1' : (if i < e1.length ∧ j < e1.length ∧ k < e1.length then SO.nx (((e1.set i (some u)).set j (some v)).set k (some w)) else .bad).Sat (Kof c r W G D) := h1
      by_cases l : i < e1.length ∧ j < e1.length ∧ k < e1.length
      · rw [if_pos l] at h1'
        have R2 := R1.put n1 hpi l.1
        have R3 := R2.put (n2.put fun a ha hb => (no1 a hb).1 ha) hpj (by rw [List.length_set]; exact l.2.1)
        have R4 := R3.put ((n3.put fun a ha hb => (no1 a hb).2 ha).put fun a ha hb => no2 a hb ha) hpk (by rw [List.length_set, List.length_set]; exact l.2.2)
        exact h1' _ G1 H1 _ R4 s1.sub
      · rw [if_neg l] at h1'; exact h1'.elim
    | [], _, h1 => exact h1.elim
    | [_], _, h1 => exact h1.elim
    | [_, _], _, h1 => exact h1.elim
    | _ :: _ :: _ :: _ :: _, _, h1 => exact h1.elim
end

/-! ### isinstance -/
inductive Kd where
  | non | bl | int | str | lst | tup | dct | ins (k : Nat) | other
  deriving DecidableEq
@[simp] def kindOf : PV → Kd
  | .non => .non
  | .bl _ => .bl
  | .int _ => .int
  | .str _ => .str
  | .lst _ => .lst
  | .tup _ => .tup
  | .dct _ _ => .dct
  | .ins k _ => .ins k
  | .scr _ => .other
  | .cls _ => .other
  | .slc _ _ => .other
def tyVal (c : TC) : Kd → Value
  | .non => .type "NoneType"
  | .bl => .type "bool"
  | .int => .type "int"
  | .str => .type "str"
  | .lst => .type "list"
  | .tup => .type "tuple"
  | .dct => .type "dict"
  | .ins k => .ref (c.C k)
  | .other => .none
/-- what an own class must have for isinstance -/
structure IsiC (K : PySem.W.Frag) (C : Addr) : Prop where
  cl : Cls K C
  ha : PySem.W.findIn K (.ref C) "__class__" = some (some (.builtin "object.__class__"))
  hn : PySem.W.specialIn K (.builtin "object.__class__") "__get__" = some (some (.builtin "getset_descriptor.__get__"))
  htk : PySem.W.takesIn K (.builtin "object.__class__") = some true
  hm : PySem.W.mroIn K C (.type "object") = some true
/-- ks: the own classes that may come -/
@[simp] def isiF (tb : Kd → Option Bool) (ks : List Nat) (t : PV) : Option Bool := match kindOf t with
  | .ins k => if ks.contains k then tb (.ins k) else none
  | .other => none
  | d => tb d
theorem isi_ty {c : TC} {G H : Hp} {t : PV} {v : V} {ks : List Nat} (s : Sub G H) (hk : ∀ k ∈ ks, IsiC c.K (c.C k)) (w : WRep c G H t v) (h : match kindOf t with | .ins k => ks.contains k = true | .other => False | _ => True) : TyX c.K H v (tyVal c (kindOf t)) := by
  cases t with
  | non => cases w; exact .base .non
  | bl b => cases w; exact .base (.bl b)
  | int b => cases w; exact .base (.int b)
  | str b => obtain ⟨rfl, _⟩ := w; exact .base (.str b)
  | lst xs => obtain ⟨p, vs, rfl, hx, _⟩ := w; exact .base (.lst hx)
  | tup xs =>
    obtain ⟨p, vs, rfl, hx, _⟩ := w
    rcases s.sqT hx with (h | ⟨o, h⟩) | ⟨o, its, n, h, hc, _⟩
    · exact .base (.tup h)
    · exact .fTuple h
    · exact .kTuple h hc
  | ins k fs =>
    obtain ⟨p, dx, gs, rfl, hx, _⟩ := w
    have i := hk k (List.contains_iff_mem.mp h)
    exact .base (.ins hx i.cl i.ha i.hn i.htk i.hm)
  | dct b kvs =>
    obtain ⟨p, rfl, hx⟩ := w
    rcases hx with ⟨_, ks, hx, _⟩ | ⟨_, ks, hx, _⟩
    · exact .base (.dK hx)
    · exact .base (.dT hx)
  | scr _ => exact h.elim
  | cls _ => exact h.elim
  | slc _ _ => exact h.elim
@[simp] def eIsi (tb : Kd → Option Bool) (ks : List Nat) (ea : EvE) : EvE := fun env => (ea env).bind fun x e => match look e x with
  | some t => (ofO (isiF tb ks t) e).bind fun b e => .ok (.tr (.bl b)) e
  | none => .bad
section
variable {X : Cx} {c : TC} {r : Ref} {W : WX} {e cl : Expr} {cls : List Expr} {ea : EvE} {tb : Kd → Option Bool} {ks : List Nat} {pos p : Pos}
theorem isiF_some {t : PV} {b : Bool} (h : isiF tb ks t = some b) : tb (kindOf t) = some b ∧ (match kindOf t with | .ins k => ks.contains k = true | .other => False | _ => True) := by
  unfold isiF at h
  cases q : kindOf t with
  | ins k =>
    rw [q] at h
    simp only at h
    by_cases m : ks.contains k = true
    · rw [if_pos m] at h; exact ⟨h, m⟩
    · rw [if_neg m] at h; cases h
  | other => rw [q] at h; cases h
  | _ => rw [q] at h; exact ⟨h, trivial⟩
/-- isinstance(e, cl), one class u -/
theorem pt_isi {u : Value} {v : V} (hK : X.K = c.K) (hk : ∀ k ∈ ks, IsiC c.K (c.C k)) (hu : ClsV v u) (ht : ∀ d b, (∀ k, d = .ins k → ks.contains k = true) → tb d = some b → PySem.W.kitOne c.K (tyVal c d) u = some b) (hg : Gl X "isinstance") (hm : X.mg "isinstance" = none) (he : PE X e (TEof c r W ea)) (hcl : PE X cl (tC v))
    (h1 : starEach [e, cl] X.env = (false, eval e X.env) :: starEach [cl] X.env := by rfl) (h2 : starEach [cl] X.env = (false, eval cl X.env) :: starEach [] X.env := by rfl) (hpl : (backTo pos (starEach [cl] X.env)).any (·.1) = false := by rfl) :
    PE X (.Call (.Name "isinstance" p) [e, cl] [] pos) (TEof c r W (eIsi tb ks ea)) := PE.imp (pe_callB call_isi hg hm boot_isinstance (pa_cons he (pa_cons hcl pa_nil h2) h1) (by decide) (by decide) h1 hpl) fun σ H Q ⟨ads, G, env, R, h⟩ => by
  refine ⟨ads, G, env, R, Sat_mono (Sat_bind.mp h) (fun x e1 h1 ads1 G1 H1 v1 R1 s1 p1 => ?_) fun _ _ z => z⟩
  cases q : look e1 x with
  | none => simp only [q] at h1; exact h1.elim
  | some t =>
    simp only [q] at h1
    obtain ⟨b, hb, h2⟩ := Sat_ofO.mp (Sat_bind.mp h1)
    obtain ⟨z1, z2⟩ := isiF_some hb
    have w := look_rep R1 p1 q
    refine ⟨v1, v, _, u, b, rfl, hu, by rw [hK]; exact isi_ty R1.sub hk w z2, by rw [hK]; exact ht (kindOf t) b (fun k hk' => by rw [hk'] at z2; exact z2) z1, h2 ads1 G1 H1 _ R1 s1 (rep_bl (c := c) G1)⟩
/-- isinstance(e, (c1, c2, ..)) -/
theorem pt_isiT {us : List Value} {vs : List V} {x1 : Nat} {tp : Pos} {tcl : TA} (hK : X.K = c.K) (hk : ∀ k ∈ ks, IsiC c.K (c.C k)) (hu : Paired ClsV vs us) (hl : vs.length ≤ sizeLine) (ht : ∀ d b, (∀ k, d = .ins k → ks.contains k = true) → tb d = some b → PySem.W.kitAny c.K (tyVal c d) us = some b) (hg : Gl X "isinstance") (hm : X.mg "isinstance" = none) (he : PE X e (TEof c r W ea))
    (hcl : PA X cls (fun σ H Q => Q vs H))
    (h1 : starEach [e, .Tuple cls x1 tp] X.env = (false, eval e X.env) :: starEach [.Tuple cls x1 tp] X.env := by rfl) (h2 : starEach [.Tuple cls x1 tp] X.env = (false, eval (.Tuple cls x1 tp) X.env) :: starEach [] X.env := by rfl) (hpl : (backTo pos (starEach [.Tuple cls x1 tp] X.env)).any (·.1) = false := by rfl) :
    PE X (.Call (.Name "isinstance" p) [e, .Tuple cls x1 tp] [] pos) (TEof c r W (eIsi tb ks ea)) := PE.imp (pe_callB call_isiT hg hm boot_isinstance (pa_cons he (pa_cons (pe_tup hcl) pa_nil h2) h1) (by decide) (by decide) h1 hpl) fun σ H Q ⟨ads, G, env, R, h⟩ => by
  refine ⟨ads, G, env, R, Sat_mono (Sat_bind.mp h) (fun x e1 h1 ads1 G1 H1 v1 R1 s1 p1 => ⟨hl, fun tpa hn => ?_⟩) fun _ _ z => z⟩
  cases q : look e1 x with
  | none => simp only [q] at h1; exact h1.elim
  | some t =>
    simp only [q] at h1
    obtain ⟨b, hb, h2⟩ := Sat_ofO.mp (Sat_bind.mp h1)
    obtain ⟨z1, z2⟩ := isiF_some hb
    have w := look_rep R1 p1 q
    have st : Step [] H1 G1 (upd H1 tpa (.tup vs)) G1 := Step.allocO R1.sub hn
    have R2 := R1.next st
    have w2 := look_rep R2 p1 q
    refine ⟨v1, tpa, vs, _, us, b, rfl, upd_same, hu, by rw [hK]; exact isi_ty R2.sub hk w2 z2, by rw [hK]; exact ht (kindOf t) b (fun k hk' => by rw [hk'] at z2; exact z2) z1, h2 ads1 G1 _ _ R2 (s1.trans (Nxt.of st)) (rep_bl (c := c) G1)⟩
end
end TreeL
end
section
/-! TL11: lists unpacked, with a star at the end; match. -/
namespace TreeL
open PySem PySem.Spec PyProof.Rows L2

section
variable {prog : Program} {w : World} {A : Around} {E : Value → Shared → Prop} {s : Shared}
theorem draw_lst {it l : Addr} {items : Array Value} (hne : l ≠ it) : ∀ (n i : Nat) (s : Shared) (Q : List Value → Shared → Prop), s.heap.IsListIter it l i → s.heap.IsList l items → i + n ≤ items.size →
    (∀ h', h'.IsListIter it l (i + n) → Heap.SameBut it s.heap h' → Q ((items.toList.drop i).take n) { s with heap := h' }) → wpAny (model prog w) A (draw (.ref it) n) Q E s
  | 0, i, s, Q, hit, _, _, hQ => wpAny_pure (by simpa using hQ s.heap hit (Heap.SameBut.refl ..))
  | n + 1, i, s, Q, hit, ht, hle, hQ => by
    have hlt : i < items.size := by omega
    show wpAny _ _ (pyNext (.ref it) >>= _) Q E s
    refine wpAny_bind (wpAny_pyNext_list_item hit ht (x := items[i]) (by simp [hlt]) fun h1 hit1 hs1 => ?_)
    refine wpAny_bind (wpAny_holding (draw_lst hne n (i + 1) _ _ hit1 (ht.extBut hs1.extBut hne) (by omega) fun h2 hit2 hs2 => wpAny_pure ?_))
    have hd : items.toList.drop i = items[i] :: items.toList.drop (i + 1) := by simp [List.drop_eq_getElem_cons, hlt]
    have z := hQ h2 (by rw [show i + (n + 1) = i + 1 + n by omega]; exact hit2) (hs1.trans hs2)
    rw [hd, List.take_succ_cons] at z
    exact z
theorem iter_not_refused {l : Addr} {items : Array Value} (hl : s.heap.IsList l items) {α : Type} {f : Bool → Sem α} {Q : α → Shared → Prop} (h : wpAny (model prog w) A (f false) Q E s) : wpAny (model prog w) A (notIterableAtAll (.ref l) >>= f) Q E s := by
  refine wpAny_bind ?_
  unfold notIterableAtAll
  refine wpAny_bind (wpAny_specialOf hl.typeIs slot_list_iter.lookup ?_)
  exact wpAny_pure h
/-- n names, a list of n -/
theorem unpack_lst {l : Addr} {items : Array Value} {Q : List Value → Shared → Prop} (hh : A.handled = none) (hl : s.heap.IsList l items)
    (hQ : ∀ h', Heap.ExtBut s.heap.objs.size s.heap h' → Q items.toList { s with heap := h' }) : wpAny (model prog w) A (unpackItems (.ref l) items.size none) Q E s := by
  have hlt : l ≠ s.heap.objs.size := by obtain ⟨o, ho, _⟩ := hl; exact Nat.ne_of_lt (Heap.lt_size ho)
  unfold unpackItems
  refine iter_not_refused hl ?_
  simp only [Bool.false_eq_true, if_false]
  refine wpAny_bind (wpAny_holding (wpAny_pyIter_list hl ?_))
  refine wpAny_bind (wpAny_holding (draw_lst hlt items.size 0 _ _ ⟨_, Heap.get?_push_size _ rfl, rfl, rfl⟩ (hl.push _) (by omega) fun h1 hit1 hs1 => ?_))
  have hall : List.take items.size (List.drop 0 items.toList) = items.toList := by
    rw [List.drop_zero]; exact List.take_of_length_le (by simp)
  rw [hall, if_neg (by simp)]
  have hl1 : h1.IsList l items := (hl.push _).extBut hs1.extBut hlt
  refine wpAny_bind (wpAny_holding (wpAny_pyNext_list_end hh hit1 hl1 (by simp) fun h2 he2 => ?_))
  simp only [Option.isSome_none, Bool.false_eq_true, if_false]
  exact wpAny_pure (hQ h2 fun b o hb e => he2 b o hb (hs1.extBut b o hb (Heap.get?_push_of_some _ e)))
theorem walks_from {it l : Addr} (hh : A.handled = none) (hne : l ≠ it) (items : Array Value) (k : Nat) (hk : k ≤ items.size) :
    Walks prog w A it [it, l] [it] (items.size - k) (fun i v => items[k + i]? = some v) (fun i h => h.IsListIter it l (k + i) ∧ h.IsList l items) :=
  have W := Walks.list (prog := prog) (w := w) (A := A) hh it l hne items
  { sub := W.sub
    frame := fun i h h' st => W.frame (k + i) h h' st
    item := fun i s Q E hi st hQ => W.item (k + i) s Q E (by omega) st fun v h' tk p st' => hQ v h' tk p st'
    done := fun s Q E st hQ => W.done s Q E (by rw [show k + (items.size - k) = items.size by omega] at st; exact st) hQ
    self := fun i s Q E st hQ => W.self (k + i) s Q E st hQ }
theorem items_eq {items acc : Array Value} {k : Nat} (hk : k ≤ items.size) (h : ItemsOf (fun i v => items[k + i]? = some v) acc (items.size - k)) : acc.toList = items.toList.drop k := by
  apply List.ext_getElem?
  intro j
  rw [List.getElem?_drop]
  cases q : acc.toList[j]? with
  | none =>
    have l := List.getElem?_eq_none_iff.mp q
    rw [Array.length_toList, h.1] at l
    exact (List.getElem?_eq_none (by rw [Array.length_toList]; omega)).symm
  | some v =>
    have z := h.2 j v (by rw [← Array.getElem?_toList]; exact q)
    have z' : items[k + j]? = some v := z
    rw [← Array.getElem?_toList] at z'
    exact z'.symm
/-- k names and a starred one behind them -/
theorem unpack_str {l : Addr} {items : Array Value} {k : Nat} {Q : List Value → Shared → Prop} (hh : A.handled = none) (hl : s.heap.IsList l items) (hk : k ≤ items.size) (hz : items.size ≤ sizeLine)
    (hQ : ∀ s' : Shared, (∀ b o, s.heap.get? b = some o → s'.heap.get? b = some o) → s'.gens = s.gens → s'.drawn = s.drawn → s'.os = s.os → Q (items.toList.take k ++ [.ref s'.heap.objs.size]) { s' with heap := s'.heap.push { cls := .type "list", data := .seq (items.toList.drop k).toArray } }) :
    wpAny (model prog w) A (unpackItems (.ref l) (k + 1) (some k)) Q E s := by
  have hlt : l ≠ s.heap.objs.size := by obtain ⟨o, ho, _⟩ := hl; exact Nat.ne_of_lt (Heap.lt_size ho)
  unfold unpackItems
  refine iter_not_refused hl ?_
  simp only [Bool.false_eq_true, if_false]
  refine wpAny_bind (wpAny_holding (wpAny_pyIter_list hl ?_))
  refine wpAny_bind (wpAny_holding (draw_lst hlt k 0 _ _ ⟨_, Heap.get?_push_size _ rfl, rfl, rfl⟩ (hl.push _) (by omega) fun h1 hit1 hs1 => ?_))
  rw [List.drop_zero]
  have hlen : (List.take k items.toList).length = k := by rw [List.length_take, Array.length_toList]; omega
  rw [if_neg (by rw [hlen]; omega)]
  have hl1 : h1.IsList l items := (hl.push _).extBut hs1.extBut hlt
  have hitl : s.heap.objs.size < h1.objs.size := by obtain ⟨o, ho, _⟩ := hit1; exact Heap.lt_size ho
  have hll : l < h1.objs.size := by obtain ⟨o, ho, _⟩ := hl1; exact Heap.lt_size ho
  rw [Nat.zero_add] at hit1
  have W := (walks_from (prog := prog) (w := w) (A := A.in1) (show A.in1.handled = none from hh) hlt items k hk).toS
  refine wpAny_bind (wpAny_holding (wpAny_collect_iter (.inr (.inr (.inl rfl))) W (fun i s st => st.1.typeIs) (show _ ∧ _ from ⟨hit1, hl1⟩) (fun b hb => ?_) (by simp) (fun s' acc mv it => ?_) (by omega)))
  · simp at hb
    rcases hb with rfl | rfl
    · exact hitl
    · exact hll
  · rw [items_eq hk it]
    have e0 : k + 1 - 1 - k = 0 := by omega
    simp only [e0, Nat.not_lt_zero, if_false, Nat.sub_zero, List.take_length, List.drop_length, List.append_nil]
    refine wpAny_bind (m := newList _) (wpAny_newObj_type ?_ (by show (items.toList.drop k).toArray.size ≤ sizeLine; rw [List.size_toArray, List.length_drop, Array.length_toList]; omega))
    refine wpAny_pure (hQ s' (fun b o e => ?_) mv.gens mv.drawn mv.os)
    have ne : b ≠ s.heap.objs.size := Nat.ne_of_lt (Heap.lt_size e)
    exact mv.heap b o (by simpa using ne) (hs1.extBut b o ne (Heap.get?_push_of_some _ e))
end

/-! ### targets -/
@[simp] def gTpL (n : Nat) (gs : List PV → En → Option En) : Tg := fun t env => match t with
  | .tup ts => if ts.length = n then gs ts env else none
  | .lst ts => if ts.length = n then gs ts env else none
  | _ => none
/-- k names, then a starred one: slots is, j -/
@[simp] def gStr (k : Nat) (gs : List PV → En → Option En) : Tg := fun t env => match t with
  | .lst ts => if k ≤ ts.length then gs (ts.take k ++ [.lst (ts.drop k)]) env else none
  | _ => none
section
variable {X : Cx} {c : TC} {r : Ref} {W : WX} {es : List Expr} {gs : List PV → En → Option En} {pos : Pos} {ws : List Nat}
theorem tg_tupL {k n : Nat} (hK : X.K = c.K) (hc : X.calm = true) (h : PGs X es (TGsof c r ws gs)) (hn : (assignEach es X.env).length = n := by rfl) (hst : (assignEach es X.env).findIdx? (·.1) = none := by rfl) : PG X (.Tuple es k pos) (TGof c r ws (gTpL n gs)) := by
  have h0 := (tg_tup hK hc h hn hst : PG X (.Tuple es k pos) (TGof c r ws (gTp n gs)))
  refine ⟨fun pins st σ H v u Q I rv ⟨ads, G, env, t, env', R, rp, e, kq⟩ => ?_⟩
  cases t with
  | tup ts => exact h0.run pins st σ H v u Q I rv ⟨ads, G, env, .tup ts, env', R, rp, e, kq⟩
  | lst ts =>
    have e' : (if ts.length = n then gs ts env else none) = some env' := e
    by_cases l : ts.length = n
    · rw [if_pos l] at e'
      simp only [Rep] at rp
      obtain ⟨a, vs, rfl, hx, rr⟩ := rp
      cases rv
      obtain ⟨its, rvs, hl, hz⟩ := I.list (.inl (.inl (R.sub _ _ hx)))
      rw [assign_Tuple]
      refine wpAny_bind (wpAny_standAt ?_)
      unfold unpack
      have e1 : (assignEach es X.env).length = its.toArray.size := by rw [hn, ← l, ← rr.length, rvs.length, List.size_toArray]
      rw [e1, hst]
      refine wpAny_bind (wpAny_holding (unpack_lst (I.ok.hd hc) hl.isList fun h' hx' => ?_))
      have I1 : Inv X pins σ H { st with heap := h' } := I.kept (t' := st.toks) fun b o e => hx' b o (Nat.ne_of_lt (Heap.lt_size e)) e
      exact h.run pins _ σ H vs _ Q I1 rvs ⟨ads, G, env, ts, env', R, rr, e', kq⟩
    · rw [if_neg l] at e'; cases e'
  | _ => cases e
/-- a target that may lay new things -/
def TG2of (c : TC) (r : Ref) (ag : Tg) : TG := fun v σ H Q => ∃ ads G env t env', RS c r ads G H σ env ∧ Rep c G t v ∧ ag t env = some env' ∧ ∀ ads' G' H' σ', RS c r ads' G' H' σ' env' → Sub G G' → Q σ' H'
theorem ts_asg2 {tg e : Expr} {ea : EvE} {g : Tg} (he : PE X e (TEof c r W ea)) (hg : PG X tg (TG2of c r g)) (hs : swapsWithSole [tg] e pos.line X.env = pure false := by rfl) (hw : swappedStores [tg] e X.env = pure none := by rfl)
    (h1 : (assignEach [tg] X.env).map (·.2) = [assign tg X.env] := by rfl) : PS X (.Assign [tg] e pos) (TSof c r W (sAsg ea g)) := PS.imp (ps_asg he hg hs hw h1) fun D σ H ⟨ads, G, env, R, h⟩ => by
  refine ⟨ads, G, env, R, Sat_mono (RE.so_Sat.mp h) (fun x e1 h1 ads1 G1 H1 v1 R1 s1 p1 => ?_) fun x e z => XC.of z⟩
  cases x with
  | sl i => exact h1.elim
  | tr t =>
    cases q : g t e1 with
    | none => simp only [q] at h1; exact h1.elim
    | some e2 =>
      simp only [q] at h1
      exact ⟨ads1, G1, e1, t, e2, R1, p1, q, fun ads' G' H' σ' R' s' => h1 ads' G' H' σ' R' (s1.sub.trans s')⟩
theorem tg_star {k kk : Nat} (hc : X.calm = true) (h : PGs X es (TGsof c r ws gs)) (es0 : List Expr) (hn : (assignEach es0 X.env).length = k + 1 := by rfl) (hst : (assignEach es0 X.env).findIdx? (·.1) = some k := by rfl) (hm : (assignEach es0 X.env).map (·.2) = (assignEach es X.env).map (·.2) := by rfl) :
    PG X (.Tuple es0 kk pos) (TG2of c r (gStr k gs)) := by
  refine ⟨fun pins st σ H v u Q I rv ⟨ads, G, env, t, env', R, rp, e, kq⟩ => ?_⟩
  cases t with
  | lst ts =>
    have e' : (if k ≤ ts.length then gs (ts.take k ++ [.lst (ts.drop k)]) env else none) = some env' := e
    by_cases l : k ≤ ts.length
    · rw [if_pos l] at e'
      simp only [Rep] at rp
      obtain ⟨a, vs, rfl, hx, rr⟩ := rp
      cases rv
      obtain ⟨its, rvs, hl, hz⟩ := I.list (.inl (.inl (R.sub _ _ hx)))
      rw [assign_Tuple]
      refine wpAny_bind (wpAny_standAt ?_)
      unfold unpack
      rw [hn, hst, hm]
      refine wpAny_bind (wpAny_holding (unpack_str (I.ok.hd hc) hl.isList (by rw [List.size_toArray, ← rvs.length, rr.length]; exact l) (by rw [List.size_toArray, ← rvs.length]; exact hz) fun s' k1 k2 k3 k4 => ?_))
      obtain ⟨hh, g, d, tk, os⟩ := s'
      cases k2; cases k3; cases k4
      have I1 : Inv X pins σ H { st with heap := hh, toks := tk } := I.kept (t' := tk) k1
      have hD : H hh.objs.size = none := I1.hok.fresh (Nat.le_refl _)
      have I2 : Inv X pins σ (upd H hh.objs.size (.lst (vs.drop k))) { st with heap := hh.push { cls := .type "list", data := .seq (its.drop k).toArray }, toks := tk } :=
        I1.laid (t' := tk) (fun b ob q => Heap.get?_push_of_some _ q) (Nat.le_refl _) ⟨by rw [List.length_drop]; exact Nat.le_trans (Nat.sub_le _ _) hz, its.drop k, 0, rvs.drop k, Heap.get?_push_size _ rfl⟩
      have stp := Step.alloc (o := .lst (vs.drop k)) R.sub hD
      have R2 := R.next stp
      refine h.run pins _ σ _ (vs.take k ++ [.ref hh.objs.size]) _ Q I2 ((rvs.take k).append (.cons (show L2.RelV (.ref hh.objs.size) (.ref hh.objs.size) from rfl) .nil)) ⟨ads, _, env, _, env', R2, ?_, e', fun ads' σ' R' l1 l2 l3 l4 => ?_⟩
      · refine ((rr.take k).mono stp.sub).append (RepL.one ?_)
        simp only [Rep]
        exact ⟨_, _, rfl, upd_same, (rr.drop k).mono stp.sub⟩
      · exact kq ads' _ _ σ' R' stp.sub
    · rw [if_neg l] at e'; cases e'
  | _ => cases e
end

/-! ### match -/
/-- patterns that are names -/
inductive CapP : List Pattern → List Str → Prop where
  | nil : CapP [] []
  | cons {x : Str} {p : Pos} {ps : List Pattern} {xs : List Str} (h : CapP ps xs) : CapP (.MatchAs none (some x) p :: ps) (x :: xs)
theorem CapP.length : ∀ {ps : List Pattern} {xs : List Str}, CapP ps xs → ps.length = xs.length
  | _, _, .nil => rfl
  | _, _, .cons h => by simp [CapP.length h]
theorem CapP.noStar : ∀ {ps : List Pattern} {xs : List Str}, CapP ps xs → ps.findIdx? (·.isStar) = none
  | _, _, .nil => rfl
  | _, _, .cons h => by
    rw [List.findIdx?_cons]
    show (if (Pattern.MatchAs none (some _) _).isStar = true then some 0 else _) = none
    rw [if_neg (by simp [Pattern.isStar]), CapP.noStar h]
    rfl
/-- .. and a starred one behind them -/
def CapS (ps : List Pattern) (xs : List Str) (y : Str) (k : Nat) : Prop := ∃ ps0 p, CapP ps0 xs ∧ ps = ps0 ++ [.MatchStar (some y) p] ∧ xs.length = k
section
variable {M : Model} {A : Around} {E : Value → Shared → Prop} {s : Shared} {env : Env}
theorem each_caps : ∀ {ps : List Pattern} {xs : List Str} {us : List Value} {Q : Option (List (Str × Value)) → Shared → Prop}, CapP ps xs → us.length = xs.length → Q (some (xs.zip us)) s → wpAny M A (matchEach ps env us) Q E s
  | _, _, [], _, .nil, _, h => wpAny_matchEach_nil h
  | _, _, u :: us, _, .cons c, l, h => wpAny_matchEach_cons (wpAny_matchPattern_Capture (each_caps c (by simpa using l) h))
theorem each_star {y : Str} {p : Pos} {d : Value} : ∀ {ps : List Pattern} {xs : List Str} {us : List Value} {Q : Option (List (Str × Value)) → Shared → Prop}, CapP ps xs → us.length = xs.length → Q (some (xs.zip us ++ [(y, d)])) s → wpAny M A (matchEach (ps ++ [.MatchStar (some y) p]) env (us ++ [d])) Q E s
  | _, _, [], Q, .nil, _, h => by
    show wpAny M A (do
      match ← holding [d] (matchEach [] env []) with
      | none => pure none
      | some bs => pure (some ((Option.map (·, d) (some y)).toList ++ bs))) Q E s
    exact wpAny_bind (wpAny_holding (wpAny_matchEach_nil (wpAny_pure h)))
  | _, _, u :: us, _, .cons c, l, h => wpAny_matchEach_cons (wpAny_matchPattern_Capture (each_star c (by simpa using l) h))
end
abbrev EvC := PV → EvS
def setsE : List Nat → List PV → En → En
  | i :: is, t :: ts, env => setsE is ts (env.set i (some (.t t)))
  | _, _, env => env
def seqP : PV → Option (List PV)
  | .lst ts => some ts
  | .tup ts => some ts
  | _ => none
def cNil : EvC := fun _ env => .nx env
def cSeq (is : List Nat) (gd : EvT) (body : EvS) (rest : EvC) : EvC := fun t env => match seqP t with
  | some ts => if ts.length = is.length then (gd (setsE is ts env)).so fun b e => if b then body e else rest t e else rest t env
  | none => .bad
def cStar (k : Nat) (is : List Nat) (gd : EvT) (body : EvS) (rest : EvC) : EvC := fun t env => match t with
  | .lst ts => if k ≤ ts.length then (gd (setsE is (ts.take k ++ [.lst (ts.drop k)]) env)).so fun b e => if b then body e else rest t e else rest t env
  | _ => .bad
def sMatch (ea : EvE) (cs : EvC) : EvS := fun env => (ea env).so fun x e => match x with
  | .tr t => cs t e
  | .sl _ => .bad
/-- the cases, for a subject that stands for t -/
structure PMs (X : Cx) (c : TC) (r : Ref) (W : WX) (cases : List MatchCase) (cs : EvC) : Prop where
  run : ∀ (first : Bool) (pins : List (Addr × Obj)) (st : Shared) (σ : L2.St) (H : Hp) (D : Ends) (v : V) (u : Value) (t : PV) (ads : Nat → List Addr) (G : Hp) (env : En), Inv X pins σ H st → RelV v u → RS c r ads G H σ env → Rep c G t v → (cs t env).Sat (Kof c r W G D) →
    wpAny (model X.prog X.w) X.A (matchCases cases X.env u first) (SP X pins D) X.xe st
section
variable {X : Cx} {c : TC} {r : Ref} {W : WX} {e : Expr} {ea : EvE} {cases rest : List MatchCase} {cs : EvC} {pos p : Pos} {is : List Nat} {xs : List Str} {ps : List Pattern} {body : List Stmt} {gd : EvT} {ys : EvS}
theorem tm_nil : PMs X c r W [] cNil := ⟨fun first pins st σ H D v u t ads G env I rv R rp h => wpAny_matchCases_nil ⟨σ, H, I, h ads G H σ R (Sub.refl _)⟩⟩
theorem ts_match (he : PE X e (TEof c r W ea)) (hm : PMs X c r W cases cs) : PS X (.Match e cases pos) (TSof c r W (sMatch ea cs)) := ⟨fun pins st σ H D I ⟨ads, G, env, R, h⟩ => by
  have h1 : TEof c r W ea σ H (fun v H1 => ∃ t ads1 G1 env1, RS c r ads1 G1 H1 σ env1 ∧ Rep c G1 t v ∧ (cs t env1).Sat (Kof c r W G1 D)) :=
    ⟨ads, G, env, R, Sat_mono (RE.so_Sat.mp h) (fun x e1 h1 ads1 G1 H1 v1 R1 s1 p1 => by
      cases x with
      | sl i => exact h1.elim
      | tr t => exact ⟨t, ads1, G1, e1, R1, p1, Kof.weak s1.sub h1⟩) fun x e z => XC.of z⟩
  exact wpAny_Match (thn (he.run pins st σ H _ I h1) fun u s1 ⟨v, H1, I1, rv, t, ads1, G1, env1, R1, rp, q⟩ => hm.run true pins s1 σ H1 D v u t ads1 G1 env1 I1 rv R1 rp q)⟩
/-- the names are bound, one after another -/
theorem bind_caps (hN : X.N.Nodup) : ∀ {is : List Nat} {xs : List Str} {us : List Value} {vs : List V} {ts : List PV} {pins : List (Addr × Obj)} {st : Shared} {σ : L2.St} {H : Hp} {ads : Nat → List Addr} {G : Hp} {env : En} {Q : Unit → Shared → Prop},
    (∀ q ∈ is.zip xs, X.N[q.1]? = some q.2 ∧ X.env.scope.names.lookup q.2 = some .local ∧ (r.pins.map Prod.fst).contains q.1 = false) → is.length = xs.length → us.length = xs.length → Inv X pins σ H st → Vals vs us → RS c r ads G H σ env → RepL c G ts vs →
    (∀ s' σ' ads', Inv X pins σ' H s' → RS c r ads' G H σ' (setsE is ts env) → Q () s') → wpAny (model X.prog X.w) X.A (assignInOrder ((xs.zip us).map fun (n, _) => bindName X.env n) ((xs.zip us).map (·.2))) Q X.xe st
  | [], [], [], _, _, _, _, _, _, _, _, _, _, _, _, _, I, rv, R, rr, h => by
    cases rv
    exact wpAny_assignInOrder_none (h _ _ _ I (by unfold setsE; exact R))
  | i :: is, x :: xs, u :: us, _, ts, _, _, _, _, _, _, _, _, hq, l1, l2, I, rv, R, rr, h => by
    cases rv with
    | cons ru rus =>
      rename_i v vs
      cases ts with
      | nil => cases rr
      | cons t ts =>
        obtain ⟨v', r', e, rt, rts⟩ := rr
        cases e
        obtain ⟨q1, q2, q3⟩ := hq (i, x) List.mem_cons_self
        refine wpAny_assignInOrder_more (wpAny_bindName (store_ok I hN q1 (.inl q2) ru (fun s' I' => ?_) (.inr q2)))
        exact bind_caps hN (fun q hq' => hq q (List.mem_cons_of_mem _ hq')) (by simpa using l1) (by simpa using l2) I' rus (R.set rt q3) rts h
  | [], _ :: _, _, _, _, _, _, _, _, _, _, _, _, _, l, _, _, _, _, _, _ => by simp at l
  | _ :: _, [], _, _, _, _, _, _, _, _, _, _, _, _, l, _, _, _, _, _, _ => by simp at l
  | [], [], _ :: _, _, _, _, _, _, _, _, _, _, _, _, _, l, _, _, _, _, _ => by simp at l
  | _ :: _, _ :: _, [], _, _, _, _, _, _, _, _, _, _, _, _, l, _, _, _, _, _ => by simp at l
def GdOk (X : Cx) (c : TC) (r : Ref) (W : WX) : Option Expr → EvT → Prop
  | none, gd => gd = fun env => RE.ok true env
  | some g, gd => PT X g (TTof c r W gd)
/-- what is wanted behind the binding -/
def AB (X : Cx) (pins : List (Addr × Obj)) (D : Ends) (guard : Option Expr) (body : List Stmt) (rest : List MatchCase) (u : Value) (s2 : Shared) : Prop := match guard with
  | none => wpAny (model X.prog X.w) X.A (execs body X.env) (SP X pins D) X.xe s2
  | some g => wpAny (model X.prog X.w) X.A (isTrue g X.env (eval g X.env)) (fun ok s3 => if ok then wpAny (model X.prog X.w) X.A (execs body X.env) (SP X pins D) X.xe s3 else wpAny (model X.prog X.w) X.A (matchCases rest X.env u false) (SP X pins D) X.xe s3) X.xe s2
/-- behind the binding: the guard, the body, or the other cases -/
theorem case_go {guard : Option Expr} (hgd : GdOk X c r W guard gd) (hb : PSs X body (TSof c r W ys)) (hr : PMs X c r W rest cs)
    {pins : List (Addr × Obj)} {st : Shared} {σ : L2.St} {H : Hp} {D : Ends} {v : V} {u : Value} {t : PV} {ads : Nat → List Addr} {G : Hp} {env : En} (I : Inv X pins σ H st) (rv : RelV v u) (R : RS c r ads G H σ env) (rp : Rep c G t v)
    (h : ((gd env).so fun b e => if b then ys e else cs t e).Sat (Kof c r W G D)) : AB X pins D guard body rest u st := by
  cases guard with
  | none =>
    have hgd' : gd = fun env => RE.ok true env := hgd
    rw [hgd'] at h
    exact hb.run pins st σ H D I ⟨ads, G, env, R, h⟩
  | some g =>
    have hgd' : PT X g (TTof c r W gd) := hgd
    have h1 : TTof c r W gd σ H (fun b H1 => ∃ ads1 G1 env1, RS c r ads1 G1 H1 σ env1 ∧ Rep c G1 t v ∧ ((if b then ys env1 else cs t env1)).Sat (Kof c r W G1 D)) :=
      ⟨ads, G, env, R, Sat_mono (RE.so_Sat.mp h) (fun b e1 h1 ads1 G1 H1 R1 s1 => ⟨ads1, G1, e1, R1, rp.mono s1.sub, Kof.weak s1.sub h1⟩) fun x e z => XC.of z⟩
    refine thn (hgd'.run pins st σ H _ I h1) fun b s1 ⟨H1, I1, ads1, G1, env1, R1, rp1, q⟩ => ?_
    cases b with
    | true =>
      rw [if_pos rfl] at q ⊢
      exact hb.run pins s1 σ H1 D I1 ⟨ads1, G1, env1, R1, q⟩
    | false =>
      rw [if_neg Bool.false_ne_true] at q ⊢
      exact hr.run false pins s1 σ H1 D v u t ads1 G1 env1 I1 rv R1 rp1 q
/-- a sequence that fits -/
theorem caps_go {guard : Option Expr} (hN : X.N.Nodup) (hcap : CapP ps xs) (hl : is.length = xs.length) (hq : ∀ q ∈ is.zip xs, X.N[q.1]? = some q.2 ∧ X.env.scope.names.lookup q.2 = some .local ∧ (r.pins.map Prod.fst).contains q.1 = false) (hgd : GdOk X c r W guard gd) (hb : PSs X body (TSof c r W ys)) (hr : PMs X c r W rest cs)
    {pins : List (Addr × Obj)} {st : Shared} {σ : L2.St} {H : Hp} {D : Ends} {v : V} {u : Value} {t : PV} {ads : Nat → List Addr} {G : Hp} {env : En} {ts : List PV} {vs : List V} {us : List Value} (I : Inv X pins σ H st) (rv : RelV v u) (R : RS c r ads G H σ env) (rp : Rep c G t v)
    (hts : ts.length = is.length) (rr : RepL c G ts vs) (rvs : Vals vs us) (h : ((gd (setsE is ts env)).so fun b e => if b then ys e else cs t e).Sat (Kof c r W G D)) {KK : Option (List (Str × Value)) → Shared → Prop}
    (hk : ∀ s1, wpAny (model X.prog X.w) X.A (assignInOrder ((xs.zip us).map fun (n, _) => bindName X.env n) ((xs.zip us).map (·.2))) (fun _ s2 => AB X pins D guard body rest u s2) X.xe s1 → KK (some (xs.zip us)) s1) :
    wpAny (model X.prog X.w) X.A (matchEach ps X.env us) KK X.xe st := by
  have lu : us.length = xs.length := by rw [← rvs.length, rr.length, hts, hl]
  exact each_caps hcap lu (hk _ (bind_caps hN hq hl lu I rvs R rr fun s' σ' ads' I' R' => case_go hgd hb hr I' rv R' rp h))
theorem tm_seq {guard : Option Expr} (hK : X.K = c.K) (hc : X.calm = true) (hN : X.N.Nodup) (hcap : CapP ps xs) (hl : is.length = xs.length) (hne : (ps.all fun p => p.isWildcard || (p.isStar && p.names.isEmpty)) = false) (hq : ∀ q ∈ is.zip xs, X.N[q.1]? = some q.2 ∧ X.env.scope.names.lookup q.2 = some .local ∧ (r.pins.map Prod.fst).contains q.1 = false)
    (hgd : GdOk X c r W guard gd) (hb : PSs X body (TSof c r W ys)) (hr : PMs X c r W rest cs) : PMs X c r W (⟨.MatchSequence ps p, guard, body⟩ :: rest) (cSeq is gd ys cs) := ⟨fun first pins st σ H D v u t ads G env I rv R rp h => by
  refine wpAny_matchCases_cons ?_
  have hpl := hcap.length
  cases t with
  | lst ts =>
    simp only [Rep] at rp
    have rp0 : Rep c G (.lst ts) v := by simp only [Rep]; exact rp
    obtain ⟨a, vs, rfl, hx, rr⟩ := rp
    cases rv
    obtain ⟨its, rvs, hli, hz⟩ := I.list (.inl (.inl (R.sub _ _ hx)))
    have hsz : its.toArray.size = ts.length := by rw [List.size_toArray, ← rvs.length, rr.length]
    have hfit : (its.toArray.size : Int) < 2 ^ 63 := by have := line63; rw [List.size_toArray, ← rvs.length]; omega
    have I1 : Inv X pins σ H { st with toks := st.toks + 1 + 1 } := I.tok _
    have h' : (if ts.length = is.length then (gd (setsE is ts env)).so fun b e => if b then ys e else cs (.lst ts) e else cs (.lst ts) env).Sat (Kof c r W G D) := h
    by_cases l : ts.length = is.length
    · rw [if_pos l] at h'
      refine matchSeq_list_hit hli.isList hfit (by rw [hsz, l, hl, hpl]) ?_ hcap.noStar hne
      have e1 : ps.length = its.toArray.size := by rw [hsz, l, hl, hpl]
      rw [e1]
      refine unpack_lst (I.ok.hd hc) (by exact hli.isList) fun h2 hx2 => ?_
      have I2 : Inv X pins σ H { st with heap := h2, toks := st.toks + 1 + 1 } := I1.kept (t' := st.toks + 1 + 1) fun b o e => hx2 b o (Nat.ne_of_lt (Heap.lt_size e)) e
      exact caps_go hN hcap hl hq hgd hb hr I2 (show RelV (.ref a) (.ref a) from rfl) R rp0 l rr rvs h' fun s1 q => thn q fun _ s2 hz => by cases guard <;> exact hz
    · rw [if_neg l] at h'
      exact matchSeq_list_miss hli.isList hfit (by rw [hsz, hpl, ← hl]; exact l) (hr.run false pins _ σ H D _ _ (.lst ts) ads G env I1 (show RelV (.ref a) (.ref a) from rfl) R rp0 h') hcap.noStar hne
  | tup ts =>
    simp only [Rep] at rp
    have rp0 : Rep c G (.tup ts) v := by simp only [Rep]; exact rp
    obtain ⟨a, vs, rfl, hx, rr⟩ := rp
    cases rv
    obtain ⟨its, rvs, hti, hz⟩ := I.tuple (by rw [hK]; exact R.sub.sqT hx)
    have hsz : its.toArray.size = ts.length := by rw [List.size_toArray, ← rvs.length, rr.length]
    have hfit : (its.toArray.size : Int) < 2 ^ 63 := by have := line63; rw [List.size_toArray, ← rvs.length]; omega
    have I1 : Inv X pins σ H { st with toks := st.toks + 1 + 1 } := I.tok _
    have h' : (if ts.length = is.length then (gd (setsE is ts env)).so fun b e => if b then ys e else cs (.tup ts) e else cs (.tup ts) env).Sat (Kof c r W G D) := h
    by_cases l : ts.length = is.length
    · rw [if_pos l] at h'
      refine matchSeq_tuple_hit hti hfit (by rw [hsz, l, hl, hpl]) ?_ hcap.noStar hne
      have e1 : ps.length = its.toArray.size := by rw [hsz, l, hl, hpl]
      rw [e1]
      refine unpackItems_tuple (I.ok.hd hc) hti fun h2 hx2 => ?_
      have I2 : Inv X pins σ H { st with heap := h2, toks := st.toks + 1 + 1 } := I1.kept (t' := st.toks + 1 + 1) fun b o e => hx2 b o (Nat.ne_of_lt (Heap.lt_size e)) e
      exact caps_go hN hcap hl hq hgd hb hr I2 (show RelV (.ref a) (.ref a) from rfl) R rp0 l rr rvs h' fun s1 q => thn q fun _ s2 hz => by cases guard <;> exact hz
    · rw [if_neg l] at h'
      exact matchSeq_tuple_miss hti hfit (by rw [hsz, hpl, ← hl]; exact l) (hr.run false pins _ σ H D _ _ (.tup ts) ads G env I1 (show RelV (.ref a) (.ref a) from rfl) R rp0 h') hcap.noStar hne
  | _ => exact h.elim⟩
end
end TreeL
end
section
/-! TL12: the box of the draws: a dict with a list of ints under "great" and ints under other keys. -/
namespace TreeL
open PySem PySem.Spec PyProof.Rows L2

abbrev GREAT : Str := ("great" : Str)
def bxK (q : Addr) (fs : List (Str × Int)) : List (Key × V) := (Sum.inr GREAT, V.ref q) :: fs.map fun f => (Sum.inr f.1, V.int f.2)
def updI (k : Str) (n : Int) (fs : List (Str × Int)) : List (Str × Int) := fs.map fun f => if f.1 = k then (f.1, n) else f
theorem bx_great {q : Addr} {fs : List (Str × Int)} : valV (bxK q fs) (Sum.inr GREAT) = some (.ref q) := valV_pos rfl
theorem bx_get {q : Addr} {k : Str} {n : Int} (hk : k ≠ GREAT) : ∀ {fs : List (Str × Int)}, fs.lookup k = some n → valV (bxK q fs) (Sum.inr k) = some (.int n) := fun {fs} h => by
  unfold bxK
  rw [valV_neg (by simpa using Ne.symm hk)]
  induction fs with
  | nil => simp at h
  | cons f fs ih =>
    obtain ⟨g, m⟩ := f
    rw [List.lookup_cons] at h
    by_cases e : g = k
    · subst e
      simp at h
      subst h
      exact valV_pos rfl
    · rw [List.map_cons, valV_neg (by simpa using e)]
      have e' : (k == g) = false := by simpa using Ne.symm e
      rw [e'] at h
      exact ih h
theorem bx_put {q : Addr} {k : Str} {n m : Int} (hk : k ≠ GREAT) {fs : List (Str × Int)} (h : fs.lookup k = some m) : putK (bxK q fs) (Sum.inr k) (.int n) = bxK q (updI k n fs) := by
  have any : ((bxK q fs).any fun kv => decide (kv.1 = (Sum.inr k : Key))) = true := by
    rw [valV_any, bx_get hk h]
    rfl
  unfold putK
  rw [if_pos any]
  unfold bxK updI
  rw [List.map_cons, if_neg (by simpa using Ne.symm hk), List.map_map, List.map_map]
  congr 1
  apply List.map_congr_left
  intro f _
  show (if (Sum.inr f.1 : Key) = Sum.inr k then _ else _) = ((Sum.inr (if f.1 = k then (f.1, n) else f).1 : Key), V.int (if f.1 = k then (f.1, n) else f).2)
  by_cases e : f.1 = k
  · rw [if_pos (by rw [e]), if_pos e]
  · rw [if_neg (by simpa using e), if_neg e]
theorem bx_len {q : Addr} {fs : List (Str × Int)} : (bxK q fs).length = fs.length + 1 := by simp [bxK]
theorem boxD_at {c : TC} {G H : Hp} {p : Addr} {ad : List Addr} {great : List Int} {fs : List (Str × Int)} (h : OwRep c G H p ad (.boxD great fs)) : ∃ q, ad = [p, q] ∧ p ≠ q ∧ H q = some (.lst (great.map V.int)) ∧ H p = some (.dK (bxK q fs)) := h

/-! ### reading, writing -/
def eBget (i : Nat) (k : Str) : EvE := fun env => match env[i]? with
  | some (some (.ow (.boxD _ fs))) => if k = GREAT then .bad else (ofO (fs.lookup k) env).bind fun n e => .ok (.tr (.int n)) e
  | _ => .bad
def eBlen (i : Nat) : EvE := fun env => match env[i]? with
  | some (some (.ow (.boxD great _))) => .ok (.tr (.int great.length)) env
  | _ => .bad
def eBpop (i : Nat) : EvE := fun env => match env[i]? with
  | some (some (.ow (.boxD great fs))) => (ofO great[great.length - 1]? env).bind fun n e => .ok (.tr (.int n)) (e.set i (some (.ow (.boxD great.dropLast fs))))
  | _ => .bad
def sBput (i : Nat) (k : Str) (ea : EvE) : EvS := fun env => (ea env).so fun x e => match look e x, e[i]? with
  | some (.int n), some (some (.ow (.boxD great fs))) => if k ≠ GREAT ∧ (fs.lookup k).isSome ∧ fs.length < 1000 then .nx (e.set i (some (.ow (.boxD great (updI k n fs))))) else .bad
  | _, _ => .bad
section
variable {X : Cx} {c : TC} {r : Ref} {W : WX} {o e : Expr} {ea : EvE} {i : Nat} {k : Str} {pos pos' p p2 apos cpos : Pos} {j : Nat}
theorem box_slot {ads : Nat → List Addr} {G H : Hp} {σ : L2.St} {env : En} {great : List Int} {fs : List (Str × Int)} (R : RS c r ads G H σ env) (q : env[i]? = some (some (.ow (.boxD great fs)))) :
    ∃ a b, σ[i]? = some (some (.ref a)) ∧ ads i = [a, b] ∧ a ≠ b ∧ H b = some (.lst (great.map V.int)) ∧ H a = some (.dK (bxK b fs)) := by
  obtain ⟨a, e, ow⟩ := slot_own R q
  obtain ⟨b, h1, h2, h3, h4⟩ := boxD_at ow
  exact ⟨a, b, e, h1, h2, h3, h4⟩
theorem pt_bget (hu : X.A.units + 1 < cLine) (ho : PE X o (tVar i)) : PE X (.Subscript o (.Constant (.str k) j p) pos) (TEof c r W (eBget i k)) := PE.imp (pe_dget hu ho (pe_str (x := k)) fun _ _ => rfl) fun σ H Q ⟨ads, G, env, R, h⟩ => by
  simp only [eBget] at h
  cases q : env[i]? with
  | none => simp only [q] at h; exact h.elim
  | some u =>
    cases u with
    | none => simp only [q] at h; exact h.elim
    | some u =>
      cases u with
      | t _ => simp only [q] at h; exact h.elim
      | ow u =>
        cases u with
        | boxD great fs =>
          simp only [q] at h
          by_cases hk : k = GREAT
          · rw [if_pos hk] at h; exact h.elim
          · rw [if_neg hk] at h
            obtain ⟨n, hn, h2⟩ := Sat_ofO.mp (Sat_bind.mp h)
            obtain ⟨a, b, e1, e2, e3, e4, e5⟩ := box_slot R q
            exact ⟨.ref a, e1, a, .int n, rfl, .inl ⟨_, .inr k, .inl e5, rfl, (bx_get hk hn).symm⟩, h2 ads G H _ R (Nxt.refl _ _ _) (rep_int (c := c) G)⟩
        | _ => simp only [q] at h; exact h.elim
theorem pt_blen (hu : X.A.units + 1 < cLine) (hg : Gl X "len") (hm : X.mg "len" = none) (ho : PE X o (tVar i)) (h1 : starEach [.Subscript o (.Constant (.str GREAT) j p) pos'] X.env = (false, eval (.Subscript o (.Constant (.str GREAT) j p) pos') X.env) :: starEach [] X.env := by rfl) (hpl : (backTo pos (starEach ([] : List Expr) X.env)).any (·.1) = false := by rfl) :
    PE X (.Call (.Name "len" p2) [.Subscript o (.Constant (.str GREAT) j p) pos'] [] pos) (TEof c r W (eBlen i)) :=
  PE.imp (pe_callB call_len_seq hg hm boot_len (pa_cons (pe_dget hu ho (pe_str (x := GREAT)) fun _ _ => rfl) pa_nil h1) (by decide) (by decide) h1 hpl) fun σ H Q ⟨ads, G, env, R, h⟩ => by
    simp only [eBlen] at h
    cases q : env[i]? with
    | none => simp only [q] at h; exact h.elim
    | some u =>
      cases u with
      | none => simp only [q] at h; exact h.elim
      | some u =>
        cases u with
        | t _ => simp only [q] at h; exact h.elim
        | ow u =>
          cases u with
          | boxD great fs =>
            simp only [q] at h
            obtain ⟨a, b, e1, e2, e3, e4, e5⟩ := box_slot R q
            refine ⟨.ref a, e1, a, .ref b, rfl, .inl ⟨_, .inr GREAT, .inl e5, rfl, bx_great.symm⟩, b, _, rfl, .inl (.inl (.inl e4)), ?_⟩
            rw [List.length_map]
            exact h ads G H _ R (Nxt.refl _ _ _) (rep_int (c := c) G)
          | _ => simp only [q] at h; exact h.elim
theorem RS.bwrite {ads : Nat → List Addr} {G H : Hp} {σ : L2.St} {env : En} {a b : Addr} {great great' : List Int} {fs fs' : List (Str × Int)} (R : RS c r ads G H σ env) (e1 : σ[i]? = some (some (.ref a))) (e2 : ads i = [a, b]) (e3 : a ≠ b) (e4 : H b = some (.lst (great.map V.int))) (e5 : H a = some (.dK (bxK b fs))) :
    RS c r ads G (upd H b (.lst (great'.map V.int))) σ (env.set i (some (.ow (.boxD great' fs)))) ∧ RS c r ads G (upd H a (.dK (bxK b fs'))) σ (env.set i (some (.ow (.boxD great fs')))) := by
  constructor
  · refine R.write e1 (by rw [e2]; simp) e4 ⟨b, e2, e3, upd_same, ?_⟩
    rw [upd_ne e3]
    exact e5
  · refine R.write e1 (by rw [e2]; simp) e5 ⟨b, e2, e3, ?_, upd_same⟩
    rw [upd_ne (Ne.symm e3)]
    exact e4
theorem pt_bpop (hK : X.K = c.K) (hu : X.A.units + 1 < cLine) (ho : PE X o (tVar i)) (hbase : attributeBase (.Subscript o (.Constant (.str GREAT) j p) pos') "pop" X.env (eval (.Subscript o (.Constant (.str GREAT) j p) pos') X.env) = eval (.Subscript o (.Constant (.str GREAT) j p) pos') X.env := by rfl) (hline : (apos.endLine == cpos.line) = true := by rfl) :
    PE X (.Call (.Attribute (.Subscript o (.Constant (.str GREAT) j p) pos') "pop" apos) [] [] cpos) (TEof c r W (eBpop i)) :=
  PE.imp (pe_bm0 (T := "list") (id := "list.pop") PySem.F.plainAttrs_list PySem.F.slot_list_pop PySem.F.type_list_pop mt_pop (pe_dget hu ho (pe_str (x := GREAT)) fun _ _ => rfl) hbase hline) fun σ H Q ⟨ads, G, env, R, h⟩ => by
    simp only [eBpop] at h
    cases q : env[i]? with
    | none => simp only [q] at h; exact h.elim
    | some u =>
      cases u with
      | none => simp only [q] at h; exact h.elim
      | some u =>
        cases u with
        | t _ => simp only [q] at h; exact h.elim
        | ow u =>
          cases u with
          | boxD great fs =>
            simp only [q] at h
            obtain ⟨n, hn, h2⟩ := Sat_ofO.mp (Sat_bind.mp h)
            obtain ⟨a, b, e1, e2, e3, e4, e5⟩ := box_slot R q
            refine ⟨.ref a, e1, a, .ref b, rfl, .inl ⟨_, .inr GREAT, .inl e5, rfl, bx_great.symm⟩, .inl ⟨rfl, _, .inl (.inl e4)⟩, b, _, .int n, rfl, rfl, e4, by rw [List.length_map, List.getElem?_map, hn]; rfl, ?_⟩
            have R2 := (RS.bwrite (great' := great.dropLast) (fs' := fs) R e1 e2 e3 e4 e5).1
            rw [← List.map_dropLast]
            exact h2 ads G _ _ R2 (Nxt.wr (i := i) (by rw [e2]; simp) e4) (rep_int (c := c) G)
          | _ => simp only [q] at h; exact h.elim
theorem ts_bput (hu : X.A.units + 1 < cLine) (ho : PE X o (tVar i)) (he : PE X e (TEof c r W ea)) (hs : swapsWith e (some (.Subscript o (.Constant (.str k) j p) pos')) pos.line X.env = pure false := by rfl) :
    PS X (.Assign [.Subscript o (.Constant (.str k) j p) pos'] e pos) (TSof c r W (sBput i k ea)) := PS.imp (ps_dput hu ho (pe_str (x := k)) he hs) fun D σ H ⟨ads, G, env, R, h⟩ => by
  refine ⟨ads, G, env, R, Sat_mono (RE.so_Sat.mp h) (fun x e1 h1 ads1 G1 H1 v1 R1 s1 p1 => ?_) fun x e z => XC.of z⟩
  cases ql : look e1 x with
  | none => simp only [ql] at h1; exact h1.elim
  | some t =>
    have w := look_rep R1 p1 ql
    cases t with
    | int n =>
      cases w
      cases q : e1[i]? with
      | none => simp only [ql, q] at h1; exact h1.elim
      | some u =>
        cases u with
        | none => simp only [ql, q] at h1; exact h1.elim
        | some u =>
          cases u with
          | t _ => simp only [ql, q] at h1; exact h1.elim
          | ow u =>
            cases u with
            | boxD great fs =>
              simp only [ql, q] at h1
              by_cases m : k ≠ GREAT ∧ (fs.lookup k).isSome ∧ fs.length < 1000
              · rw [if_pos m] at h1
                obtain ⟨m1, m2, m3⟩ := m
                obtain ⟨old, ho⟩ := Option.isSome_iff_exists.mp m2
                obtain ⟨a, b, z1, z2, z3, z4, z5⟩ := box_slot R1 q
                refine ⟨.ref a, z1, a, _, rfl, .inl ⟨_, .inr k, z5, rfl, ?_, rfl⟩, ?_⟩
                · rw [bx_len]
                  exact Nat.lt_of_lt_of_le (show fs.length + 1 < LIM by unfold LIM; omega) (lim_line (Nat.le_refl _))
                · rw [bx_put m1 ho]
                  exact h1 ads1 G1 _ σ (RS.bwrite (great' := great) (fs' := updI k n fs) R1 z1 z2 z3 z4 z5).2 s1.sub
              · rw [if_neg m] at h1; exact h1.elim
            | _ => simp only [ql, q] at h1; exact h1.elim
    | _ => simp only [ql] at h1; exact h1.elim

/-! ### xs[::-1] -/
@[simp] def rRev (ea : EvE) : EvR := fun env => (ea env).bind fun x e => match look e x with
  | some (.lst ts) => .ok (.ow (.lst ts.reverse)) e
  | _ => .bad
theorem tr_rev {kk : Nat} {p1 p3 : Pos} (he : PE X e (TEof c r W ea)) : PE X (.Subscript e (.Slice none none (some (.UnaryOp .USub (.Constant (.int 1) kk p1) p2)) p3) pos) (TRof c r W (rRev ea)) := PE.imp (pe_revL he) fun σ H Q ⟨ads, G, env, R, h⟩ => by
  refine ⟨ads, G, env, R, Sat_mono (Sat_bind.mp h) (fun x e1 h1 ads1 G1 H1 v1 R1 s1 p1 => ?_) fun _ _ z => z⟩
  cases q : look e1 x with
  | none => simp only [q] at h1; exact h1.elim
  | some t =>
    have w := look_rep R1 p1 q
    cases t with
    | lst ts =>
      simp only [q] at h1
      obtain ⟨a, vs, rfl, hx, rr⟩ := w
      exact ⟨a, vs, rfl, .inl (.inl hx), QOut.list (QOut.res R1 s1 h1) rr.reverse⟩
    | _ => simp only [q] at h1; exact h1.elim

/-! ### a new box -/
def bPairs : List (Str × EvE) → En → RE (List (Str × Int))
  | [], env => .ok [] env
  | (k, ea) :: r, env => (ea env).bind fun x e1 => match look e1 x with
    | some (.int n) => (bPairs r e1).bind fun ns e => .ok ((k, n) :: ns) e
    | _ => .bad
def fBox (ef : EvF) (fs : List (Str × EvE)) : EvF := fun env => (ef env).bind fun o e1 => match o with
  | .lst ts => (match intsP ts with
    | some ns => (bPairs fs e1).bind fun ms e => .ok (.boxD ns ms) e
    | none => .bad)
  | _ => .bad
theorem pairs_imp {σ : L2.St} : ∀ {fs : List (Str × EvE)} {ads0 ads : Nat → List Addr} {G0 H0 G H : Hp} {env : En} {Q : List (V × V) → Hp → Prop}, RS c r ads G H σ env → Nxt ads0 G0 H0 ads G H →
    (bPairs fs env).Sat (fun ns env' => ∀ ads' G' H', RS c r ads' G' H' σ env' → Nxt ads G H ads' G' H' → ns.map Prod.fst = fs.map Prod.fst → Q (ns.map fun q => (V.str q.1, V.int q.2)) H') (XC c r W G0 σ) → tPairs (fs.map fun q => (tC (.str q.1), TEof c r W q.2)) σ H Q
  | [], ads0, ads, G0, H0, G, H, env, Q, R, s0, h => h ads G H R (Nxt.refl _ _ _) rfl
  | (k, ea) :: fs, ads0, ads, G0, H0, G, H, env, Q, R, s0, h => by
    refine ⟨ads, G, env, R, Sat_mono (Sat_bind.mp h) (fun x e1 h1 ads1 G1 H1 v1 R1 s1 p1 => ?_) fun x e z => z.weak s0.sub⟩
    cases q : look e1 x with
    | none => simp only [q] at h1; exact h1.elim
    | some t =>
      have w := look_rep R1 p1 q
      cases t with
      | int n =>
        cases w
        simp only [q] at h1
        exact pairs_imp R1 (s0.trans s1) (Sat_mono (Sat_bind.mp h1) (fun ns e2 h2 ads2 G2 H2 R2 s2 hk => h2 ads2 G2 H2 R2 (s1.trans s2) (by simp [hk])) fun _ _ z => z)
      | _ => simp only [q] at h1; exact h1.elim
theorem merge_box {q : Addr} : ∀ {ns : List (Str × Int)} {acc : List (Key × V)}, (∀ f ∈ ns, ∀ kv ∈ acc, kv.1 ≠ Sum.inr f.1) → (ns.map Prod.fst).Nodup → mergeK acc (ns.map fun f => (Sum.inr f.1, V.int f.2)) = acc ++ ns.map fun f => (Sum.inr f.1, V.int f.2)
  | [], acc, _, _ => by simp [mergeK]
  | f :: ns, acc, h, nd => by
    rw [List.map_cons, List.nodup_cons] at nd
    have no : (acc.any fun kv => decide (kv.1 = (Sum.inr f.1 : Key))) = false := by
      rw [List.any_eq_false]
      intro kv hkv
      simpa using h f List.mem_cons_self kv hkv
    have e1 : putK acc (Sum.inr f.1 : Key) (V.int f.2) = acc ++ [(Sum.inr f.1, V.int f.2)] := by unfold putK; rw [no, if_neg Bool.false_ne_true]
    show mergeK (putK acc (Sum.inr f.1) (V.int f.2)) (ns.map fun f => (Sum.inr f.1, V.int f.2)) = _
    rw [e1, merge_box (q := q) (fun g hg kv hkv => ?_) nd.2]
    · simp
    · rcases List.mem_append.mp hkv with z | z
      · exact h g (List.mem_cons_of_mem _ hg) kv z
      · rw [List.mem_singleton.mp z]
        intro e
        have e' : f.1 = g.1 := Sum.inr.inj e
        exact nd.1 (by rw [e']; exact List.mem_map_of_mem hg)
theorem pf_box {keys : List (Option Expr)} {values : List Expr} {ef : EvF} {fs : List (Str × EvE)} (h : PPs X pos keys values ((tC (.str GREAT), TFof c r W ef) :: fs.map fun q => (tC (.str q.1), TEof c r W q.2))) (hnd : (GREAT :: fs.map Prod.fst).Nodup) (hl : fs.length ≤ 14)
    (hall : keys.all (·.isSome) = true := by rfl) (hkl : keys.length = values.length := by rfl) (h0 : keys ≠ [] := by intro z; cases z) (h15 : keys.length ≤ 15 := by decide) : PE X (.Dict keys values pos) (TFof c r W (fBox ef fs)) := PE.imp (pe_disp h hall hkl h0 h15) fun σ H Q ⟨ads, G, env, R, hh⟩ => fun p hp => by
  have R0 := R.lay (ho := .dK []) hp
  have n0 := New.of R hp
  have sx : Nxt ads G H ads G (upd H p (.dK [])) := Nxt.of (Step.allocO R.sub hp)
  refine ⟨ads, G, env, R0, Sat_mono (Sat_bind.mp hh) (fun o e1 h1 ads1 G1 H1 b ad R1 s1 ow nw => ?_) fun _ _ z => z⟩
  cases o with
  | lst ts =>
    cases qi : intsP ts with
    | none => simp only [qi] at h1; exact h1.elim
    | some ns =>
      simp only [qi] at h1
      obtain ⟨rfl, vs, hb, rr⟩ := ow
      have ev := ints_rep rr qi
      subst ev
      obtain ⟨p1, p2, p3⟩ := s1.hold p _ upd_same n0.2.2
      have nb := nw b (List.mem_singleton.mpr rfl)
      have ne : p ≠ b := fun z => by
        have y := nb.2
        rw [← z, upd_same] at y; cases y
      refine pairs_imp (G0 := G) R1 (sx.trans s1) (Sat_mono (Sat_bind.mp h1) (fun ms e2 h2 ads2 G2 H2 R2 s2 hk => ?_) fun _ _ z => z)
      obtain ⟨q1, q2, q3⟩ := s2.hold p _ p1 p2
      obtain ⟨b1, b2, b3⟩ := s2.hold b _ hb nb.1.2.2
      refine ⟨q1, (Sum.inr GREAT, V.ref b) :: ms.map (fun f => (Sum.inr f.1, V.int f.2)), ?_, ?_, ?_⟩
      · rw [List.map_cons, List.map_map]; rfl
      · have := congrArg List.length hk
        rw [List.length_map, List.length_map] at this
        rw [List.length_cons, List.length_map]
        omega
      · have hnd' := hnd
        rw [← hk, List.nodup_cons] at hnd'
        have em : mergeK [] ((Sum.inr GREAT, V.ref b) :: ms.map (fun f => (Sum.inr f.1, V.int f.2))) = bxK b ms := by
          show mergeK [(Sum.inr GREAT, V.ref b)] (ms.map (fun f => (Sum.inr f.1, V.int f.2))) = _
          rw [merge_box (q := b) (fun f hf kv hkv => ?_) hnd'.2]
          · rfl
          · rw [List.mem_singleton.mp hkv]
            intro e
            have e' : GREAT = f.1 := Sum.inr.inj e
            exact hnd'.1 (by rw [e']; exact List.mem_map_of_mem hf)
        rw [em]
        have n2 : New r ads2 G2 p := ⟨q3 (p3 n0.1), n0.2.1, q2⟩
        have R3 := R2.scratch (ho' := .dK (bxK b ms)) n2 q1
        have st : Nxt ads2 G2 H2 ads2 G2 (upd H2 p (.dK (bxK b ms))) → Nxt ads G H ads2 G2 (upd H2 p (.dK (bxK b ms))) := fun z => ((sx.trans s1).trans s2).trans z
        have sW : Nxt ads G H ads2 G2 (upd H2 p (.dK (bxK b ms))) := by
          have base := (sx.trans s1).trans s2
          refine ⟨base.sub, fun a o ea na => ?_, fun a ea => ?_⟩
          · have nea : a ≠ p := fun z => by rw [z, hp] at ea; cases ea
            rw [upd_ne nea]
            exact base.hold a o ea na
          · by_cases z : a = p
            · rw [z, upd_same] at ea; cases ea
            · rw [upd_ne z] at ea
              exact base.there a ea
        refine h2 ads2 G2 _ p [p, b] R3 sW ⟨b, rfl, ne, ?_, upd_same⟩ fun a ha => ?_
        · rw [upd_ne (Ne.symm ne)]
          exact b1
        · simp at ha
          rcases ha with rfl | rfl
          · exact ⟨n2, hp⟩
          · exact ⟨⟨b3 nb.1.1, nb.1.2.1, b2⟩, sx.there _ nb.2⟩
  | _ => exact h1.elim
end
end TreeL
end
section
/-! TL13: either of two readings; the own methods behind str, len, ==, !=, +, [], in. -/
namespace TreeL
open PySem PySem.Spec PyProof.Rows L2

/-! ### either of two -/
def orR {α : Type} (x : RE α) (y : RE α) : RE α := match x with
  | .bad => y
  | r => r
def rAlt (a b : EvR) : EvR := fun env => orR (a env) (b env)
def eAlt (a b : EvE) : EvE := fun env => orR (a env) (b env)
theorem orR_cases {α : Type} {x y : RE α} : orR x y = x ∨ orR x y = y := by
  cases x with
  | bad => exact .inr rfl
  | ok _ _ => exact .inl rfl
  | exc _ _ => exact .inl rfl
section
variable {X : Cx} {c : TC} {r : Ref} {W : WX} {e : Expr}
theorem PE.or {t t' : TE} (h : PE X e t) (h' : PE X e t') : PE X e (fun σ H Q => t σ H Q ∨ t' σ H Q) := ⟨fun pins s σ H Q I q => by
  rcases q with q | q
  · exact h.run pins s σ H Q I q
  · exact h'.run pins s σ H Q I q⟩
theorem tr_alt {a b : EvR} (h : PE X e (TRof c r W a)) (h' : PE X e (TRof c r W b)) : PE X e (TRof c r W (rAlt a b)) := PE.imp (PE.or h h') fun σ H Q ⟨ads, G, env, R, q⟩ => by
  rcases orR_cases (x := a env) (y := b env) with z | z
  · exact .inl ⟨ads, G, env, R, by rw [← z]; exact q⟩
  · exact .inr ⟨ads, G, env, R, by rw [← z]; exact q⟩
theorem pt_alt {a b : EvE} (h : PE X e (TEof c r W a)) (h' : PE X e (TEof c r W b)) : PE X e (TEof c r W (eAlt a b)) := PE.imp (PE.or h h') fun σ H Q ⟨ads, G, env, R, q⟩ => by
  rcases orR_cases (x := a env) (y := b env) with z | z
  · exact .inl ⟨ads, G, env, R, by rw [← z]; exact q⟩
  · exact .inr ⟨ads, G, env, R, by rw [← z]; exact q⟩
/-- nothing is said (what is never reached) -/
theorem pt_bad : PE X e (TEof c r W fun _ => .bad) := ⟨fun _ _ _ _ _ _ ⟨_, _, _, _, q⟩ => q.elim⟩
theorem tr_bad : PE X e (TRof c r W fun _ => .bad) := ⟨fun _ _ _ _ _ _ ⟨_, _, _, _, q⟩ => q.elim⟩
theorem pf_bad : PE X e (TFof c r W fun _ => .bad) := ⟨fun _ _ _ _ _ _ ⟨_, _, _, _, q⟩ => q.elim⟩
theorem ts_bad {st : Stmt} : PS X st (TSof c r W fun _ => .bad) := ⟨fun _ _ _ _ _ _ ⟨_, _, _, _, q⟩ => q.elim⟩
end

/-! ### a def run deeper -/
/-- a call of the def f with values xs, from the context A' -/
def callOf (n : Nat) (F : FSem) (ds : List PV) (xs : List Vl) (e : En) : RE Arg := if okCall n ds xs then (match argsOf e xs with
  | none => .bad
  | some args => match F (args ++ ds.map Arg.t) with
    | .ret a as => .ok a (putArgs xs (as.take xs.length) e)
    | .exc x as => .exc x (putArgs xs (as.take xs.length) e)
    | .bad => .bad) else .bad
/-- x of the class k, its own method -/
def isIns (k : Nat) (env : En) (x : Vl) : Bool := match look env x with
  | some (.ins k' _) => k' == k
  | _ => false
def rDun1 (k : Nat) (F : FSem) (ok : Arg → Bool) (ea : EvE) : EvR := fun env => (ea env).bind fun x e => if isIns k e x then (callOf 1 F [] [x] e).bind fun a e => if ok a then .ok a e else .bad else .bad
/-- the result through g -/
def rDun2 (k : Nat) (F : FSem) (g : Arg → Option Arg) (oky : En → Vl → Bool) (ea eb : EvE) : EvR := fun env => (ea env).bind fun x e1 => (eb e1).bind fun y e => if isIns k e x && oky e y then (callOf 2 F [] [x, y] e).bind fun a e => ofO (g a) e else .bad
section
variable {X : Cx} {c : TC} {r : Ref} {W : WX} {a b e : Expr} {ea eb : EvE} {k n kc : Nat} {f : Addr} {fd : FuncData} {ps : List Str} {F : FSem} {pos p : Pos}
theorem call_core' {ads0 ads : Nat → List Addr} {G0 H0 G H : Hp} {σ : L2.St} {env : En} {xs : List Vl} {vs : List V} {Q : VK} (R : RS c r ads G H σ env) (s0 : Nxt ads0 G0 H0 ads G H) (pv : VReps c σ G xs vs)
    (h : (callOf n F [] xs env).Sat (fun o env' => ∀ ads' G' H' v, RS c r ads' G' H' σ env' → Nxt ads0 G0 H0 ads' G' H' → ResNew c r ads' G' H0 H' o v → Q v H') (XC c r W G0 σ)) : spF c n F vs H Q (WE W σ) := by
  have z := call_core (ds := []) (dvs := []) (n := n) (F := F) R s0 pv (fun _ => rfl) h
  rw [List.append_nil] at z
  exact z
/-- the def runs, all arguments given -/
theorem runG0 {A' : Around} {sp : Sp} {E : XK} (hF : FnG X.prog X.w X.K X.mg X.base k f fd ps sp) (hb : Binds X.K fd ps []) (hr : RoomG k A') (hfr : A'.frames = some X.stack) {pins : List (Addr × Obj)} {st : Shared} {σ : L2.St} {H : Hp} {us : List Value} {vs : List V} {Q : VK}
    (hx : PassesAt (L2.CX X.prog X.w) X σ E) (I : Inv X pins σ H st) (rv : Vals vs us) (h : sp vs H Q E) : wpAny (model X.prog X.w) A' (call (.ref f) us) (EP X pins σ Q) X.xe st := runG hF hb .nil hr hfr hx I rv (by rw [List.append_nil]; exact h)
/-- the instance behind a tree of the class kc -/
theorem ins_at {ads : Nat → List Addr} {G H : Hp} {σ : L2.St} {env : En} {x : Vl} {v : V} (R : RS c r ads G H σ env) (p : VRep c σ G x v) (h : isIns kc env x = true) : ∃ a dx gs, v = .ref a ∧ H a = some (.ins (c.C kc) dx gs) := by
  unfold isIns at h
  cases q : look env x with
  | none => rw [q] at h; cases h
  | some t =>
    rw [q] at h
    cases t with
    | ins k' fs =>
      obtain ⟨a, dx, gs, e, hH, _⟩ := look_rep R p q
      have e2 : k' = kc := beq_iff_eq.mp h
      subst e2
      exact ⟨a, dx, gs, e, hH⟩
    | _ => cases h
theorem inst_of {pins : List (Addr × Obj)} {st : Shared} {σ : L2.St} {H : Hp} {q C dx : Addr} {gs : List (Str × V)} (I : Inv X pins σ H st) (h : H q = some (.ins C dx gs)) : ∃ ox od, PySem.W.InstAt st.heap q ox C od := by
  obtain ⟨mA, J, _⟩ := ins_get I.hok h
  obtain ⟨od, J, _⟩ := J.look
  exact ⟨_, _, J⟩
/-- an own method by name, as the library's roads want it -/
structure OwnM (K : PySem.W.Frag) (C : Addr) (m : Str) (f : Addr) : Prop where
  at_ : PySem.W.findIn K (.ref C) m = some (some (.ref f))
  fn : PySem.W.isFn K (.ref f) = true
theorem frames_in1 {A : Around} {st : List Env} (h : A.frames = some st) : A.in1.frames = some st := h
/-- one value, an own method of it: at the values -/
def rOne (c : TC) (W : WX) (kc : Nat) (F : FSem) : L2.St → V → Hp → VK → Prop := fun σ x H Q => (∃ a dx gs, x = .ref a ∧ H a = some (.ins (c.C kc) dx gs)) ∧ spF c 1 F [x] H Q (WE W σ)
theorem dun1_imp {ok : Arg → Bool} {σ : L2.St} {H : Hp} {Q : VK} (h : TRof c r W (rDun1 kc F ok ea) σ H Q) : TEof c r W ea σ H (fun x H1 => rOne c W kc F σ x H1 (fun v H2 => Q v H2 ∧ ∃ o ads' G' H0, ok o = true ∧ ResNew c r ads' G' H0 H2 o v)) := by
  obtain ⟨ads, G, env, R, h⟩ := h
  refine ⟨ads, G, env, R, Sat_mono (Sat_bind.mp h) (fun x e1 h1 ads1 G1 H1 v1 R1 s1 p1 => ?_) fun _ _ z => z⟩
  by_cases m : isIns kc e1 x = true
  · rw [if_pos m] at h1
    refine ⟨ins_at R1 p1 m, call_core' (xs := [x]) R1 s1 ⟨v1, [], rfl, p1, rfl⟩ (Sat_mono (Sat_bind.mp h1) (fun o e2 h2 ads' G' H' v R' s' rn => ?_) fun _ _ z => z)⟩
    by_cases k : ok o = true
    · rw [if_pos k] at h2
      exact ⟨h2 ads' G' H' v R' s' rn, o, ads', G', H, k, rn⟩
    · rw [if_neg k] at h2; exact h2.elim
  · rw [if_neg m] at h1; exact h1.elim
def okStr : Arg → Bool
  | .t (.str _) => true
  | _ => false
def okLen : Arg → Bool
  | .t (.int n) => decide (0 ≤ n ∧ n < 2 ^ 63)
  | _ => false
def oneV (P : V → Hp → Prop) : List V → Hp → Prop := fun vs H => match vs with
  | [v] => P v H
  | _ => False
theorem okStr_rep {ads' : Nat → List Addr} {G' H0 H' : Hp} {o : Arg} {v : V} {u : Value} (k : okStr o = true) (h : ResNew c r ads' G' H0 H' o v) (rv : RelV v u) : ∃ x t, u = .str x t := by
  cases o with
  | ow _ => cases k
  | t t =>
    cases t with
    | str x =>
      have h' : Rep c G' (.str x) v := h
      simp only [Rep] at h'
      obtain ⟨rfl, _⟩ := h'
      obtain ⟨t, rfl⟩ := rv
      exact ⟨x, t, rfl⟩
    | _ => cases k
/-- str(e) by an own __str__ -/
theorem tr_strOwn (M : OwnM X.K (c.C kc) "__str__" f) (hF : FnG X.prog X.w X.K X.mg X.base k f fd ps (spF c 1 F)) (hb : Binds X.K fd ps []) (hr : RoomG (k + 2) X.A) (tk : Takes X W) (hg : Gl X "str") (hm : X.mg "str" = none) (he : PE X e (TEof c r W ea))
    (h1 : starEach [e] X.env = (false, eval e X.env) :: starEach [] X.env := by rfl) (hpl : (backTo pos (starEach ([] : List Expr) X.env)).any (·.1) = false := by rfl) : PE X (.Call (.Name "str" p) [e] [] pos) (TRof c r W (rDun1 kc F okStr ea)) := ⟨fun pins st σ H Q I h => by
  have h' : tCons (TEof c r W ea) tNil σ H (oneV fun x H1 => rOne c W kc F σ x H1 (fun v H2 => Q v H2 ∧ ∃ o ads' G' H0, okStr o = true ∧ ResNew c r ads' G' H0 H2 o v)) := dun1_imp h
  refine wpAny_Call_Name_kw (ld_blt I hg hm PyProof.Rows.boot_str (PyProof.Rows.callWith_type1 (thn ((pa_cons he pa_nil h1).run pos pins st σ H _ I h') fun us s1 ⟨vs, H1, I1, r1, q1⟩ => ?_) h1 hpl) (by decide) (by decide))
  match vs, r1, q1 with
  | [v], .cons rv .nil, ⟨⟨a, dx, gs, e1, hH⟩, sp⟩ =>
    subst e1
    obtain rfl := (show _ = Value.ref a from rv)
    obtain ⟨ox, od, J⟩ := inst_of I1 hH
    refine PySem.W.kso_call (by have := hr.rm.un; show X.A.units + 1 + 1 < cLine; omega) I1.kIn J M.at_ M.fn ?_
    refine thn (runG0 hF hb (RoomG.in1 (RoomG.in1 hr)) (frames_in1 (frames_in1 I1.ok.frames)) (passAt tk σ) I1 (.cons rv .nil) sp) fun u s2 ⟨v2, H2, I2, r2, q2, o, ads', G', H0, ko, rn⟩ => ?_
    obtain ⟨x, t, rfl⟩ := okStr_rep ko rn r2
    exact ⟨v2, H2, I2, r2, q2⟩⟩
theorem okLen_rep {ads' : Nat → List Addr} {G' H0 H' : Hp} {o : Arg} {v : V} {u : Value} (k : okLen o = true) (h : ResNew c r ads' G' H0 H' o v) (rv : RelV v u) : ∃ n t, u = .int n t ∧ v = .int n ∧ 0 ≤ n ∧ n < 2 ^ 63 := by
  cases o with
  | ow _ => cases k
  | t t =>
    cases t with
    | int x =>
      have h' : Rep c G' (.int x) v := h
      simp only [Rep] at h'
      subst h'
      obtain ⟨t, rfl⟩ := rv
      exact ⟨x, t, rfl, rfl, of_decide_eq_true k⟩
    | _ => cases k
/-- len(e) by an own __len__ -/
theorem tr_lenOwn (M : OwnM X.K (c.C kc) "__len__" f) (hF : FnG X.prog X.w X.K X.mg X.base k f fd ps (spF c 1 F)) (hb : Binds X.K fd ps []) (hr : RoomG (k + 1) X.A) (tk : Takes X W) (hg : Gl X "len") (hm : X.mg "len" = none) (he : PE X e (TEof c r W ea))
    (h1 : starEach [e] X.env = (false, eval e X.env) :: starEach [] X.env := by rfl) (hpl : (backTo pos (starEach ([] : List Expr) X.env)).any (·.1) = false := by rfl) : PE X (.Call (.Name "len" p) [e] [] pos) (TRof c r W (rDun1 kc F okLen ea)) := ⟨fun pins st σ H Q I h => by
  have h' : tCons (TEof c r W ea) tNil σ H (oneV fun x H1 => rOne c W kc F σ x H1 (fun v H2 => Q v H2 ∧ ∃ o ads' G' H0, okLen o = true ∧ ResNew c r ads' G' H0 H2 o v)) := dun1_imp h
  refine wpAny_Call_Name_kw (ld_blt I hg hm boot_len (PyProof.Rows.callWith_builtin1 (thn ((pa_cons he pa_nil h1).run pos pins st σ H _ I h') fun us s1 ⟨vs, H1, I1, r1, q1⟩ => ?_) h1 hpl) (by decide) (by decide))
  match vs, r1, q1 with
  | [v], .cons rv .nil, ⟨⟨a, dx, gs, e1, hH⟩, sp⟩ =>
    subst e1
    obtain rfl := (show _ = Value.ref a from rv)
    obtain ⟨ox, od, J⟩ := inst_of I1 hH
    obtain ⟨m, fr⟩ := I1.fr
    refine PySem.W.len_K fr I1.ok.mod.kin J M.at_ M.fn ?_
    refine thn (runG0 hF hb (RoomG.in1 hr) (frames_in1 I1.ok.frames) (passAt tk σ) I1 (.cons rv .nil) sp) fun u s2 ⟨v2, H2, I2, r2, q2, o, ads', G', H0, ko, rn⟩ => ?_
    obtain ⟨n, t, rfl, rfl, b1, b2⟩ := okLen_rep ko rn r2
    exact ⟨⟨b1, b2⟩, .int n, H2, I2.tok _, ⟨_, rfl⟩, q2⟩⟩

/-! ### two values -/
def rTwo (c : TC) (W : WX) (kc : Nat) (F : FSem) (P : V → Hp → Prop) : L2.St → V → V → Hp → VK → Prop := fun σ x y H Q => (∃ a dx gs, x = .ref a ∧ H a = some (.ins (c.C kc) dx gs)) ∧ P y H ∧ spF c 2 F [x, y] H Q (WE W σ)
/-- what F gave, and what is wanted of g of it -/
def QG (c : TC) (r : Ref) (W : WX) (σ : L2.St) (ads0 : Nat → List Addr) (G0 H0 : Hp) (g : Arg → Option Arg) (Q : VK) : VK := fun v H2 => ∃ o ads' G' e2, RS c r ads' G' H2 σ e2 ∧ Nxt ads0 G0 H0 ads' G' H2 ∧ ResNew c r ads' G' H0 H2 o v ∧ ∃ o', g o = some o' ∧ (∀ ads'' G'' H'' v', RS c r ads'' G'' H'' σ e2 → Nxt ads0 G0 H0 ads'' G'' H'' → ResNew c r ads'' G'' H0 H'' o' v' → Q v' H'')
theorem dun2_imp {g : Arg → Option Arg} {oky : En → Vl → Bool} {P : V → Hp → Prop} (hP : ∀ ads G H σ env y v, RS c r ads G H σ env → VRep c σ G y v → oky env y = true → P v H) {σ : L2.St} {H : Hp} {Q : VK} (h : TRof c r W (rDun2 kc F g oky ea eb) σ H Q) :
    TEof c r W ea σ H (fun x H1 => TEof c r W eb σ H1 (fun y H2 => ∃ ads0 G0 H0, rTwo c W kc F P σ x y H2 (QG c r W σ ads0 G0 H0 g Q))) := by
  obtain ⟨ads, G, env, R, h⟩ := h
  refine ⟨ads, G, env, R, Sat_mono (Sat_bind.mp h) (fun x e1 h1 ads1 G1 H1 v1 R1 s1 p1 => ?_) fun _ _ z => z⟩
  refine ⟨ads1, G1, e1, R1, Sat_mono (Sat_bind.mp h1) (fun y e2 h2 ads2 G2 H2 v2 R2 s2 p2 => ?_) fun x e z => z.weak s1.sub⟩
  by_cases m : (isIns kc e2 x && oky e2 y) = true
  · rw [if_pos m] at h2
    rw [Bool.and_eq_true] at m
    refine ⟨ads, G, H, ins_at R2 (p1.mono s2.sub) m.1, hP _ _ _ _ _ _ _ R2 p2 m.2, call_core' (xs := [x, y]) R2 (s1.trans s2) ⟨v1, [v2], rfl, p1.mono s2.sub, v2, [], rfl, p2, rfl⟩ (Sat_mono (Sat_bind.mp h2) (fun o e3 h3 ads' G' H' v R' s' rn => ?_) fun _ _ z => z)⟩
    obtain ⟨o', go, h4⟩ := Sat_ofO.mp h3
    exact ⟨o, ads', G', e3, R', s', rn, o', go, h4⟩
  · rw [if_neg m] at h2; exact h2.elim
def gId : Arg → Option Arg := some
def gNot : Arg → Option Arg
  | .t (.bl b) => some (.t (.bl !b))
  | _ => none
def gBl : Arg → Option Arg
  | .t (.bl b) => some (.t (.bl b))
  | _ => none
def anyY : En → Vl → Bool := fun _ _ => true
theorem QG.id {σ : L2.St} {ads0 : Nat → List Addr} {G0 H0 H2 : Hp} {Q : VK} {v : V} (h : QG c r W σ ads0 G0 H0 gId Q v H2) : Q v H2 := by
  obtain ⟨o, ads', G', e2, R, s, rn, o', go, q⟩ := h
  cases go
  exact q ads' G' H2 v R s rn
theorem QG.bl {σ : L2.St} {ads0 : Nat → List Addr} {G0 H0 H2 : Hp} {Q : VK} {v : V} {g : Arg → Option Arg} {b' : Bool → Bool} (hg : ∀ o o', g o = some o' → ∃ b, o = .t (.bl b) ∧ o' = .t (.bl (b' b))) (h : QG c r W σ ads0 G0 H0 g Q v H2) : ∃ b, v = .bl b ∧ Q (.bl (b' b)) H2 := by
  obtain ⟨o, ads', G', e2, R, s, rn, o', go, q⟩ := h
  obtain ⟨b, rfl, rfl⟩ := hg o o' go
  have rn' : Rep c G' (.bl b) v := rn
  simp only [Rep] at rn'
  subst rn'
  exact ⟨b, rfl, q ads' G' H2 _ R s (rep_bl (c := c) G')⟩
theorem gNot_bl : ∀ o o', gNot o = some o' → ∃ b, o = .t (.bl b) ∧ o' = .t (.bl (!b)) := fun o o' h => by
  cases o with
  | ow _ => cases h
  | t t => cases t <;> first | (cases h; exact ⟨_, rfl, rfl⟩) | cases h
theorem gBl_bl : ∀ o o', gBl o = some o' → ∃ b, o = .t (.bl b) ∧ o' = .t (.bl (id b)) := fun o o' h => by
  cases o with
  | ow _ => cases h
  | t t => cases t <;> first | (cases h; exact ⟨_, rfl, rfl⟩) | cases h
/-- a two-place operation by an own method, in PE -/
theorem two_run {g : Arg → Option Arg} {oky : En → Vl → Bool} {P : V → Hp → Prop} {f2 : Value → Value → Sem Value} (hP : ∀ ads G H σ env y v, RS c r ads G H σ env → VRep c σ G y v → oky env y = true → P v H) (ha : PE X a (TEof c r W ea)) (hb : PE X b (TEof c r W eb))
    (op : ∀ pins st σ H x y (v u : Value) Q ads0 G0 H0, Inv X pins σ H st → RelV x v → RelV y u → rTwo c W kc F P σ x y H (QG c r W σ ads0 G0 H0 g Q) → wpAny (model X.prog X.w) X.A (f2 v u) (EP X pins σ Q) X.xe st)
    {pins : List (Addr × Obj)} {st : Shared} {σ : L2.St} {H : Hp} {Q : VK} (I : Inv X pins σ H st) (h : TRof c r W (rDun2 kc F g oky ea eb) σ H Q) :
    wpAny (model X.prog X.w) X.A (eval a X.env) (fun v s1 => wpAny (model X.prog X.w) X.A (eval b X.env) (fun u s2 => wpAny (model X.prog X.w) X.A (f2 v u) (EP X pins σ Q) X.xe s2) X.xe s1) X.xe st :=
  binT ha hb I (dun2_imp hP h) fun v u s2 x y H2 I2 rx ry ⟨ads0, G0, H0, q⟩ => op pins s2 σ H2 x y v u Q ads0 G0 H0 I2 rx ry q
theorem ne_entry {A : Around} {E : Value → Shared → Prop} {s : Shared} {K : PySem.W.Frag} {x C : Addr} {ox : Obj} {od : Option Obj} {b : Value} {prog : Program} {w : World} {Q : Value → Shared → Prop} (hu : A.units < cLine) (XK : K.In s.heap) (I : PySem.W.InstAt s.heap x ox C od)
    (hs : PySem.W.findIn K (.ref C) "__eq__" = some (some (.ref f))) (hf : PySem.W.isFn K (.ref f) = true) (h : wpAny (model prog w) A (call (.ref f) [.ref x, b]) (fun v s' => ∃ k, v = .bool k ∧ Q (.bool !k) s') E s) :
    wpAny (model prog w) A (Builtin.«object.__ne__» ⟨[.ref x, b], []⟩) (fun fin s' => ∃ v, fin = .done (.ret v) ∧ (∃ k, v = .bool k) ∧ Q v s') E s := by
  unfold Builtin.«object.__ne__»
  refine wpAny_bind (wpAny_pure ?_)
  refine wpAny_bind (wpAny_cRoomFor hu ?_)
  refine wpAny_bind (PySem.W.ifBound_K XK I hs hf (wpAny_mono h (fun v s' hv => ?_) fun _ _ y => y))
  obtain ⟨k, rfl, q⟩ := hv
  exact wpAny_bind (wpAny_truthy_bool (wpAny_pure ⟨_, rfl, ⟨_, rfl⟩, q⟩))
theorem ne_bound {A : Around} {E : Value → Shared → Prop} {s : Shared} {K : PySem.W.Frag} {x C : Addr} {ox : Obj} {od : Option Obj} {args : List Value} {M : Model} {Q : Option Value → Shared → Prop} (XK : K.In s.heap) (I : PySem.W.InstAt s.heap x ox C od) (hne : PySem.W.findIn K (.ref C) "__ne__" = some (some (.builtin "object.__ne__")))
    (h : wpAny M A (call (.builtin "object.__ne__") (.ref x :: args)) (fun v => Q (some v)) E s) : wpAny M A (callSpecialIfBound? (.ref x) "__ne__" args) Q E s := by
  simp only [callSpecialIfBound?, bindSpecialIfBound?]
  refine wpAny_holding (wpAny_bind (wpAny_bind (wpAny_bind (I.type.here ((PySem.W.looks_findIn XK hne).here ?_)))))
  refine wpAny_bind (wpAny_askSetting (wpAny_ite ?_))
  have fin : wpAny M A (call (.builtin "object.__ne__") ([.ref x] ++ args) >>= fun v => pure (some v)) Q E s := wpAny_bind (wpAny_mono h (fun v s' z => wpAny_pure z) fun _ _ z => z)
  split
  · exact wpAny_bind (wpAny_of_eq (PySem.F.cmp_object.ne.bind _) (wpAny_pure (by exact fin)))
  · exact wpAny_tryCatch (wpAny_bind (wpAny_of_eq (PySem.F.cmp_object.ne.bind _) (wpAny_pure (by exact fin))))
theorem ne_K {A : Around} {E : Value → Shared → Prop} {s : Shared} {K : PySem.W.Frag} {x C : Addr} {h0 : Heap} {L : Addr} {m : Str → Option Value} {ox : Obj} {od : Option Obj} {b tb : Value} {prog : Program} {w : World} {Q : Value → Shared → Prop} (hu : A.units + 1 < cLine) (Fr0 : Fr h0 L s.heap m) (X0 : K.In h0) (I : PySem.W.InstAt s.heap x ox C od) (hbt : PySem.W.Looks (model prog w) s.heap (typeOf b) tb) (hn : PySem.W.notFirst K C tb = true)
    (hne : PySem.W.findIn K (.ref C) "__ne__" = some (some (.builtin "object.__ne__"))) (hob : PySem.W.mroIn K C (.type "object") = some true) (hs : PySem.W.findIn K (.ref C) "__eq__" = some (some (.ref f))) (hf : PySem.W.isFn K (.ref f) = true)
    (h : wpAny (model prog w) A.in1 (call (.ref f) [.ref x, b]) (fun v s' => ∃ k, v = .bool k ∧ Q (.bool !k) s') E s) : wpAny (model prog w) A (richCompare .NotEq (.ref x) b) Q E s := by
  have XK := X0.keeps Fr0.keep
  have ent := ne_entry (A := A.in1) (E := E) (show A.in1.units < cLine from hu) XK I hs hf h
  have one : wpAny (model prog w) A (tryCompare (.ref x) "__ne__" b) (fun r s' => ∃ v, r = some v ∧ Q v s') E s := by
    unfold tryCompare
    refine wpAny_bind (ne_bound XK I hne (wpAny_call (codeAny_call_builtin PySem.F.cmp_object.ne.plain PySem.F.cmpEntry_ne (PySem.W.check_slot PySem.F.cmpKind_ne PySem.F.cmpSplit_ne (I.type.andThen (PySem.W.looks_mroIn XK hob)) (PySem.F.cmpArgs_ne _ _) (wpAny_mono ent (fun fin s' z => ?_) fun _ _ z => z)))))
    obtain ⟨v, rfl, ⟨k, rfl⟩, q⟩ := z
    exact wpAny_pure ⟨_, rfl, q⟩
  unfold richCompare
  simp only [oneThing_ref, cmpInfo_NotEq]
  refine wpAny_holding (wpAny_bind (wpAny_cRoomFor (by omega) ?_))
  refine wpAny_bind (I.type.here (wpAny_bind (hbt.here ?_)))
  split
  · rename_i q
    have e : PySem.W.subIn K tb (.ref C) = some false := by
      rcases Bool.or_eq_true_iff.mp hn with e | e
      · rw [beq_iff_eq.mp e] at q; simp at q
      · exact beq_iff_eq.mp e
    refine wpAny_bind ((PySem.W.looks_subIn XK e).here ?_)
    simp only [Bool.false_eq_true, if_false]
    refine wpAny_bind (wpAny_mono one (fun r s' z => ?_) fun _ _ e => e)
    obtain ⟨v, rfl, hq⟩ := z
    exact wpAny_pure hq
  · refine wpAny_bind (wpAny_pure ?_)
    simp only [Bool.false_eq_true, if_false]
    refine wpAny_bind (wpAny_mono one (fun r s' z => ?_) fun _ _ e => e)
    obtain ⟨v, rfl, hq⟩ := z
    exact wpAny_pure hq
def PIns (c : TC) (kc : Nat) : V → Hp → Prop := fun v H => ∃ a dx gs, v = .ref a ∧ H a = some (.ins (c.C kc) dx gs)
theorem pins_ok : ∀ ads G H σ env y v, RS c r ads G H σ env → VRep c σ G y v → isIns kc env y = true → PIns c kc v H := fun _ _ _ _ _ _ _ R p h => ins_at R p h
/-- a == b by an own __eq__, both of the class -/
theorem tr_eqOwn (M : OwnM X.K (c.C kc) "__eq__" f) (hF : FnG X.prog X.w X.K X.mg X.base k f fd ps (spF c 2 F)) (hb : Binds X.K fd ps []) (hr : RoomG k X.A) (tk : Takes X W) (ha : PE X a (TEof c r W ea)) (hbb : PE X b (TEof c r W eb)) :
    PE X (.Compare a [.Eq] [b] pos) (TRof c r W (rDun2 kc F gBl (isIns kc) ea eb)) := ⟨fun pins st σ H Q I h => by
  refine wpAny_Compare1 (two_run (f2 := compareOp .Eq) pins_ok ha hbb (fun pins st σ H x y v u Q ads0 G0 H0 I rx ry ⟨⟨a1, dx, gs, e1, hH⟩, ⟨a2, dy, gs2, e2, hH2⟩, sp⟩ => ?_) I h) (nomark _)
  subst e1; subst e2
  obtain rfl := (show v = Value.ref a1 from rx)
  obtain rfl := (show u = Value.ref a2 from ry)
  obtain ⟨ox, od, J⟩ := inst_of I hH
  obtain ⟨ox2, od2, J2⟩ := inst_of I hH2
  obtain ⟨m, fr⟩ := I.fr
  show wpAny _ _ (richCompare .Eq _ _) _ _ _
  refine PySem.W.cmp_K (op := .Eq) hr.rm.units0 fr I.ok.mod.kin J J2.type (by simp [PySem.W.notFirst]) M.at_ M.fn ?_
  refine thn (runG0 hF hb hr I.ok.frames (passAt tk σ) I (.cons rx (.cons ry .nil)) sp) fun u s2 ⟨v2, H2, I2, r2, qg⟩ => ?_
  obtain ⟨bb, rfl, q⟩ := qg.bl gBl_bl
  cases r2
  exact ⟨.bl bb, H2, I2, (show RelV (.bl bb) (.bool bb) from rfl), q⟩⟩
/-- a != b by an own __eq__ -/
theorem tr_neOwn (M : OwnM X.K (c.C kc) "__eq__" f) (hne : PySem.W.findIn X.K (.ref (c.C kc)) "__ne__" = some (some (.builtin "object.__ne__"))) (hob : PySem.W.mroIn X.K (c.C kc) (.type "object") = some true) (hF : FnG X.prog X.w X.K X.mg X.base k f fd ps (spF c 2 F)) (hb : Binds X.K fd ps []) (hr : RoomG (k + 1) X.A) (tk : Takes X W) (ha : PE X a (TEof c r W ea)) (hbb : PE X b (TEof c r W eb)) :
    PE X (.Compare a [.NotEq] [b] pos) (TRof c r W (rDun2 kc F gNot (isIns kc) ea eb)) := ⟨fun pins st σ H Q I h => by
  refine wpAny_Compare1 (two_run (f2 := compareOp .NotEq) pins_ok ha hbb (fun pins st σ H x y v u Q ads0 G0 H0 I rx ry ⟨⟨a1, dx, gs, e1, hH⟩, ⟨a2, dy, gs2, e2, hH2⟩, sp⟩ => ?_) I h) (nomark _)
  subst e1; subst e2
  obtain rfl := (show v = Value.ref a1 from rx)
  obtain rfl := (show u = Value.ref a2 from ry)
  obtain ⟨ox, od, J⟩ := inst_of I hH
  obtain ⟨ox2, od2, J2⟩ := inst_of I hH2
  obtain ⟨m, fr⟩ := I.fr
  show wpAny _ _ (richCompare .NotEq _ _) _ _ _
  refine ne_K (by have := hr.rm.un; omega) fr I.ok.mod.kin J J2.type (by simp [PySem.W.notFirst]) hne hob M.at_ M.fn ?_
  refine thn (runG0 hF hb (RoomG.in1 hr) (frames_in1 I.ok.frames) (passAt tk σ) I (.cons rx (.cons ry .nil)) sp) fun u s2 ⟨v2, H2, I2, r2, qg⟩ => ?_
  obtain ⟨bb, rfl, q⟩ := qg.bl gNot_bl
  cases r2
  exact ⟨bb, rfl, .bl (!bb), H2, I2, (show RelV (.bl (!bb)) (.bool !bb) from rfl), q⟩⟩
theorem anyY_ok : ∀ ads G H σ env y v, RS c r ads G H σ env → VRep c σ G y v → anyY env y = true → True := fun _ _ _ _ _ _ _ _ _ _ => trivial
/-- a[b] by an own __getitem__ -/
theorem tr_ixOwn (M : OwnM X.K (c.C kc) "__getitem__" f) (hfn : PySem.W.fnIn X.K f = true) (hF : FnG X.prog X.w X.K X.mg X.base k f fd ps (spF c 2 F)) (hb : Binds X.K fd ps []) (hr : RoomG (k + 1) X.A) (tk : Takes X W) (ha : PE X a (TEof c r W ea)) (hbb : PE X b (TEof c r W eb))
    (hsl : ∀ q i, subscripted b true (.ref q) i = runValue (.builtin "lifetime.subscript" ⟨[.ref q, i], []⟩)) : PE X (.Subscript a b pos) (TRof c r W (rDun2 kc F gId anyY ea eb)) := ⟨fun pins st σ H Q I h => by
  refine Subscript_ (two_run (P := fun _ _ => True) (f2 := subscriptTail a b) anyY_ok ha hbb (fun pins st σ H x y v u Q ads0 G0 H0 I rx ry ⟨⟨a1, dx, gs, e1, hH⟩, _, sp⟩ => ?_) I h)
  subst e1
  obtain rfl := (show v = Value.ref a1 from rx)
  obtain ⟨ox, od, J⟩ := inst_of I hH
  obtain ⟨m, fr⟩ := I.fr
  refine PySem.W.sub_K fr I.ok.mod.kin J M.at_ hfn M.fn ?_ (hsl _ _)
  exact thn (runG0 hF hb (RoomG.in1 hr) (frames_in1 I.ok.frames) (passAt tk σ) I (.cons rx (.cons ry .nil)) sp) fun u s2 ⟨v2, H2, I2, r2, qg⟩ => ⟨v2, H2, I2, r2, qg.id⟩⟩
theorem backed {v : V} {u : Value} {s' : Shared} {P : Value → Shared → Prop} (rv : RelV v u) (h : P u s') : PySem.W.CmpBack P u s' := by
  cases u with
  | notImplemented =>
    cases v with
    | non => cases rv
    | bl _ => cases rv
    | ref _ => cases rv
    | ty _ => cases rv
    | int _ => obtain ⟨t, e⟩ := rv; cases e
    | str _ => obtain ⟨t, e⟩ := rv; cases e
    | byt _ => obtain ⟨t, e⟩ := rv; cases e
    | flt _ => obtain ⟨t, e⟩ := rv; cases e
  | _ => exact h
/-- a + b by an own method, both of the class -/
theorem tr_binOwn {op : Operator} (M : OwnM X.K (c.C kc) (PySem.dunder op.info.2) f) (hc : PySem.W.selfFirst X.K (c.C kc) = true) (hF : FnG X.prog X.w X.K X.mg X.base k f fd ps (spF c 2 F)) (hb : Binds X.K fd ps []) (hr : RoomG k X.A) (tk : Takes X W) (ha : PE X a (TEof c r W ea)) (hbb : PE X b (TEof c r W eb)) :
    PE X (.BinOp a op b pos) (TRof c r W (rDun2 kc F gId (isIns kc) ea eb)) := ⟨fun pins st σ H Q I h => by
  refine wpAny_BinOp (two_run (f2 := binaryOp op) pins_ok ha hbb (fun pins st σ H x y v u Q ads0 G0 H0 I rx ry ⟨⟨a1, dx, gs, e1, hH⟩, ⟨a2, dy, gs2, e2, hH2⟩, sp⟩ => ?_) I h)
  subst e1; subst e2
  obtain rfl := (show v = Value.ref a1 from rx)
  obtain rfl := (show u = Value.ref a2 from ry)
  obtain ⟨ox, od, J⟩ := inst_of I hH
  obtain ⟨ox2, od2, J2⟩ := inst_of I hH2
  obtain ⟨m, fr⟩ := I.fr
  refine PySem.W.binop_K fr I.ok.mod.kin J J2.type hc M.at_ M.fn ?_
  exact thn (runG0 hF hb hr I.ok.frames (passAt tk σ) I (.cons rx (.cons ry .nil)) sp) fun u s2 ⟨v2, H2, I2, r2, qg⟩ => backed r2 ⟨v2, H2, I2, r2, qg.id⟩⟩
end
end TreeL
end
section
/-! TL14: repr; class methods; a class that a slot holds, called; properties. -/
namespace TreeL
open PySem PySem.Spec PyProof.Rows L2

/-! ### repr -/
/-- what may be shown -/
def shw (t : PV) : Bool := dat 60 t && (toD t).showable && decide ((toD t).shown.length ≤ LIM) && PyData.strOk (toD t).shown
def reprF : List PV → Option Arg
  | [t] => if shw t then some (.t (.str (toD t).shown)) else none
  | _ => none
mutual
theorem noDict : ∀ t : PV, (toD t).hasDict = false
  | .non => by simp [toD, PyData.hasDict]
  | .bl _ => by simp [toD, PyData.hasDict]
  | .int _ => by simp [toD, PyData.hasDict]
  | .str _ => by simp [toD, PyData.hasDict]
  | .lst xs => by rw [toD, PyData.hasDict]; exact noDicts xs
  | .tup xs => by rw [toD, PyData.hasDict]; exact noDicts xs
  | .ins _ _ => by simp [toD, PyData.hasDict]
  | .dct _ _ => by simp [toD, PyData.hasDict]
  | .scr _ => by simp [toD, PyData.hasDict]
  | .cls _ => by simp [toD, PyData.hasDict]
  | .slc _ _ => by simp [toD, PyData.hasDict]
theorem noDicts : ∀ t : List PV, PyData.hasDictAll (toDs t) = false
  | [] => by simp [toDs, PyData.hasDictAll]
  | x :: xs => by rw [toDs, PyData.hasDictAll, noDict x, noDicts xs]; rfl
end
section
variable {X : Cx} {c : TC}
theorem bu_repr (hK : X.K = c.K) (hg : X.A.guards = some []) (hu : X.A.units + 64 < cLine) : CallQ X c (.builtin "repr") reprF := fun G H ts t vs Q e s p q => by
  unfold reprF at e
  split at e
  · rename_i t0
    obtain ⟨v, rfl, w⟩ := pair1 p
    obtain ⟨hl, rfl⟩ := ite_some e
    unfold shw at hl
    rw [Bool.and_eq_true, Bool.and_eq_true, Bool.and_eq_true] at hl
    obtain ⟨⟨⟨h1, h2⟩, h3⟩, h4⟩ := hl
    have hz : (toD t0).shown.length ≤ LIM := of_decide_eq_true h3
    have gS : StrG (toD t0).shown := ⟨lim_line hz, h4⟩
    obtain ⟨d1, d2, d3⟩ := (w.rep s).dp h1
    refine ⟨fun xs H1 Q1 => xs = [v] ∧ H1 = H ∧ Q1 (.str (toD t0).shown) H, ?_, rfl, rfl, q.t.flat s (rep_str gS)⟩
    intro pins st σ H1 xs us Q1 I rv ⟨e1, e2, q1⟩
    subst e1; subst e2
    obtain ⟨u, rfl, ru⟩ := vals1 rv
    obtain ⟨as, rd⟩ := Dp.reads I (toD t0) v u (by rw [hK]; exact d1) ru
    have fin : ∀ (h' : Heap) (tk : Tok) (k : Nat), (∀ b o, st.heap.get? b = some o → h'.get? b = some o) → EP X pins σ Q1 (.str (toD t0).shown tk) { st with heap := h', toks := k } := fun h' tk k hk => ⟨.str (toD t0).shown, H1, I.kept (t' := k) hk, ⟨_, rfl⟩, q1⟩
    have fin0 : ∀ z : Str, (toD t0).shown = z → EP X pins σ Q1 (.str z st.toks) { st with toks := st.toks + 1 } := fun z ez => by
      rw [← ez]
      exact fin st.heap _ _ fun _ _ e => e
    cases t0 with
    | non => cases w; cases ru; exact PySem.P.repr_of_none (fin0 _ (by simp [toD, PyData.shown]))
    | bl b => cases w; cases ru; exact PySem.P.repr_of_bool (fin0 _ (by simp [toD, PyData.shown]))
    | int i =>
      cases w
      obtain ⟨tk, rfl⟩ := ru
      rw [toD, PyData.showable] at h2
      exact PySem.P.repr_of_int (of_decide_eq_true h2) (fin0 _ (by simp [toD, PyData.shown]))
    | str x =>
      obtain ⟨rfl, _⟩ := w
      obtain ⟨tk, rfl⟩ := ru
      rw [toD, PyData.shown] at hz
      exact PySem.P.repr_of_str (fin0 _ (by simp [toD, PyData.shown])) (lim_line hz)
    | lst xs =>
      obtain ⟨a, ws, rfl, _⟩ := w
      obtain rfl := (show u = Value.ref a from ru)
      exact PySem.repr_of_reads' rd h2 (fun z => by rw [noDict] at z; cases z) hg (by omega) (fun _ _ e => e) (fun h' u tk hk => fin h' u tk hk) (lim_line hz)
    | tup xs =>
      obtain ⟨a, ws, rfl, _⟩ := w
      obtain rfl := (show u = Value.ref a from ru)
      exact PySem.repr_of_reads' rd h2 (fun z => by rw [noDict] at z; cases z) hg (by omega) (fun _ _ e => e) (fun h' u tk hk => fin h' u tk hk) (lim_line hz)
    | ins _ _ => simp [dat] at h1
    | dct _ _ => simp [dat] at h1
    | scr _ => simp [dat] at h1
    | cls _ => simp [dat] at h1
    | slc _ _ => simp [dat] at h1
  · cases e
end

/-! ### class methods -/
/-- the def's code, in the context -/
theorem runGc {X : Cx} {k : Nat} {f : Addr} {fd : FuncData} {ps : List Str} {sp : Sp} {E : XK} {dw : List Value} {dvs : List V} (hF : FnG X.prog X.w X.K X.mg X.base k f fd ps sp) (hb : Binds X.K fd ps dw) (hd : Vals dvs dw) (hr : RoomG k X.A) {pins : List (Addr × Obj)} {st : Shared} {σ : L2.St} {H : Hp} {us : List Value} {vs : List V} {Q : VK}
    (hx : PassesAt (L2.CX X.prog X.w) X σ E) (I : Inv X pins σ H st) (rv : Vals vs us) (h : sp (vs ++ dvs) H Q E) :
    codeAny (model X.prog X.w) X.A (.call (.ref f) ⟨us, []⟩) (fun z s' => match z with | .ok (.ret v) => EP X pins σ Q v s' | .ok _ => False | .error e => X.xe e s') st := by
  have rv2 : Vals (vs ++ dvs) (us ++ dw) := rv.append hd
  have hl : (us ++ dw).length = ps.length := by rw [← rv2.length]; exact hF.len _ _ _ _ h
  refine codeAny_mono (hF.run X.A X.stack st H ⟨us, []⟩ _ _ Q E hr I.env0 (hb st us I.kIn hl) rv2 h) fun z s' hq => ?_
  match z, hq with
  | .error e, hq => exact hx pins H st e s' I hq
  | .ok (.ret u), hq => exact I.after hq
  | .ok .next, hq => exact hq.elim
  | .ok .brk, hq => exact hq.elim
  | .ok .cont, hq => exact hq.elim
/-- C.m(..), C the class k -/
def rCls (kc : Nat) (n : Nat) (F : FSem) (ds : List PV) (el : EvA) : EvR := rCall n F ds (fun env => (el env).bind fun xs e => .ok (.tr (.cls kc) :: xs) e)
section
variable {X : Cx} {c : TC} {r : Ref} {W : WX} {F : FSem} {el : EvA} {ea : EvE} {n k kc : Nat} {ds : List PV} {f q : Addr} {mc : Value} {fd : FuncData} {ps : List Str} {x m : Str} {p pos apos : Pos} {a o : Expr} {as : List Expr}
theorem tr_cmeth {pl : Sem Bool} (he : PE X o (tC (.ref (c.C kc)))) (cr : ClX.CRead X.K (c.C kc) mc) (cm : ClX.CMet X.K (c.C kc) mc m q f) (hF : FnG X.prog X.w X.K X.mg X.base k f fd ps (spF c n F)) (hb : Fill c X.K fd ps ds) (hr : RoomG k X.A) (tk : Takes X W) (ha : PA X (a :: as) (TAof c r W el))
    (hst : starEach (a :: as) X.env = (false, eval a X.env) :: starEach as X.env := by rfl) (hpl : (backTo pos (starEach as X.env)).any (·.1) = false := by rfl)
    (ht : eval (.Call (.Attribute o m apos) (a :: as) [] pos) X.env = (do let ov ← eval o X.env; standAt apos.atName; let (g, first) ← holding [ov] (getMethod ov m pl); callWith pos g first (backTo pos (starEach (a :: as) X.env)) (backToKw pos (keywordEach [] X.env))) := by rfl) :
    PE X (.Call (.Attribute o m apos) (a :: as) [] pos) (TRof c r W (rCls kc n F ds el)) := ⟨fun pn st σ Hh Qq J hq => by
  obtain ⟨dvs, dw, h1, h2, h3⟩ := hb.ex
  have hq' : TAof c r W el σ Hh (fun vs H1 => spF c n F (.ref (c.C kc) :: vs ++ dvs) H1 Qq (WE W σ)) := by
    obtain ⟨ads, G, env, R, h⟩ := hq
    refine ⟨ads, G, env, R, Sat_mono (Sat_bind.mp (Sat_bind.mp h)) (fun xs e1 h1 ads1 G1 H1 vs R1 s1 p1 => ?_) fun _ _ z => z⟩
    exact call_core (xs := .tr (.cls kc) :: xs) (vs := .ref (c.C kc) :: vs) R1 s1 ⟨_, _, rfl, by simp [VRep, Rep], p1⟩ h3 h1
  refine PySem.W.methodCall_KW (pl := pl) (thn (he.run pn st σ Hh (fun v H1 => v = .ref (c.C kc) ∧ H1 = Hh) J ⟨rfl, rfl⟩) fun u s1 ⟨v, H1, J1, rv, ev, eh⟩ => ?_) ht
  subst ev; subst eh
  obtain rfl : u = Value.ref (c.C kc) := rv
  refine ClX.getmethcm_ok J1 cr cm fun s2 J2 => ?_
  refine ClX.callwith_cm J2 (ClX.base_none J1 (Nat.le_refl _)) cm.fi (thn (ha.run pos _ s2 σ _ _ J2 hq') fun us s3 ⟨vs, H2, J3, rr, q2⟩ => ⟨⟨ClX.pin_at J3, J3.kIn⟩, ?_⟩) hst hpl
  have z := wpAny_call (PySem.W.method_call (ClX.pin_at J3) (runGc (us := .ref (c.C kc) :: us) (vs := .ref (c.C kc) :: vs) hF h2 h1 hr (passAt tk σ) J3 (.cons rfl rr) q2))
  exact thn z fun _ _ y => ClX.unpinE y⟩

/-! ### a class that a slot holds -/
/-- x(..), x the slot i -/
def rMakeV (i : Nat) (kc : Nat) (n : Nat) (F : FSem) (ds : List PV) (el : EvA) : EvR := fun env => match env[i]? with
  | some (some (.t (.cls k))) => if k = kc then rMake kc n F ds el env else .bad
  | _ => .bad
theorem tr_makeV {i : Nat} (M : Mk X.K (c.C kc) f) (hF : FnG X.prog X.w X.K X.mg X.base k f fd ps (spF c n F)) (hb : Fill c X.K fd ps ds) (hr : RoomG (k + 1) X.A) (tk : Takes X W) (hv : PE X (.Name x p) (tVar i))
    (ha : PA X (a :: as) (TAof c r W el)) (he : starEach (a :: as) X.env = (false, eval a X.env) :: starEach as X.env := by rfl) (hpl : (backTo pos (starEach as X.env)).any (·.1) = false := by rfl) :
    PE X (.Call (.Name x p) (a :: as) [] pos) (TRof c r W (rMakeV i kc n F ds el)) := ⟨fun pn st σ Hh Qq J hq => by
  obtain ⟨dvs, dw, h1, h2, h3⟩ := hb.ex
  obtain ⟨ads, G, env, R, h⟩ := hq
  simp only [rMakeV] at h
  cases q : env[i]? with
  | none => simp only [q] at h; exact h.elim
  | some u =>
    cases u with
    | none => simp only [q] at h; exact h.elim
    | some u =>
      cases u with
      | ow _ => simp only [q] at h; exact h.elim
      | t t =>
        cases t with
        | cls k =>
          simp only [q] at h
          by_cases e : k = kc
          · subst e
            rw [if_pos rfl] at h
            have sl := R.slot i
            rw [q] at sl
            cases w : σ[i]?.join with
            | none => rw [w] at sl; exact (show False from sl).elim
            | some v =>
              rw [w] at sl
              have hvv : v = .ref (c.C k) := by have z := sl.2; simp only [Rep] at z; exact z
              subst hvv
              have z := make_imp (dvs := dvs) h3 (W := W) (show TRof c r W (rMake k n F ds el) σ Hh Qq from ⟨ads, G, env, R, h⟩)
              refine wpAny_Call_Name_kw (thn (hv.run pn st σ Hh (fun v H1 => v = .ref (c.C k) ∧ H1 = Hh) J ⟨_, Option.join_eq_some_iff.mp w, rfl, rfl⟩) fun u s1 ⟨v, H1, J1, rv, ev, eh⟩ => ?_)
              subst ev; subst eh
              obtain rfl : u = Value.ref (c.C k) := rv
              refine PySem.W.callWith_K (h₀ := X.base) J1.ok.mod.kin M.kp (thn (ha.run pos pn s1 σ _ _ J1 z) fun us s2 ⟨vs, H2, J2, rr, q2⟩ => ⟨J2.kIn, ?_⟩) he hpl
              exact makeRun M hF hr h2 h1 (passAt tk σ) J2 rr q2
          · rw [if_neg e] at h; exact h.elim
        | _ => simp only [q] at h; exact h.elim⟩

end
end TreeL
end
section
/-! TL15: the law's own def, called from the top; the head's facts. -/
namespace TreeL
open PySem PySem.Spec PyProof.Rows L2

/-! ### the law's def -/
section
variable {P : Program} {w : World} {K : PySem.W.Frag} {mg mb : Str → Option Value} {k : Nat} {g a : Addr} {fd : FuncData} {x : Str} {c : TC} {F : FSem} {t : Shared} {vs : List Value} {ns : List Int}
/-- the law, at a heap in which nothing but the script may be tracked -/
theorem lawAt (H : Hp) (hO : Only H) (hS : SqL K H a (ns.map V.int)) (hok : HOk P w H t.heap) (one : ∀ b, H b ≠ none → b = a) (notK : H a ≠ none → K.lookup a = none) (kin : K.In t.heap) (hns : t.heap.Ns mainGlobals mg) (hb : t.heap.Ns builtinsNs mb) (hbb : ∀ y : Str, y ≠ "__name__" → mb y = bootBuiltins y) (hlim : t.heap.NoLimit) (hgn : t.gens = #[])
    (ha : t.heap.get? a = some { cls := .type "list", data := .seq vs.toArray }) (hr : RoomG k callerA) (hF : ∀ base : Heap, K.In base → base.Ns mainGlobals mg → FnG P w K mg base k g fd [x] (spF c 1 F)) (hbind : ∀ (st : Shared) (u : Value), BindsTo st fd ⟨[u], []⟩ [(x, u)]) (hc : c.K = K) (hf : ∃ as, F [.t (.scr ns)] = .ret (.t (.bl true)) as) :
    codeAny (model P w) callerA (.call (.ref g) ⟨[.ref a], []⟩) (fun z t' => z = .ok (.ret (.bool true)) ∧ OldK t.heap t'.heap ∧ t'.os = t.os ∧ AllBare t'.gens) t := by
  have sink : ∀ {b : Addr} {o : Obj}, t.heap.get? b = some o → H b = none → (hidT t.heap H).get? b = some o := fun e n => hidT_get e n
  have free : ∀ {b : Addr} {o : Obj}, t.heap.get? b = some o → (∀ its n, o.data ≠ .seq its n) → H b = none := fun {b o} e d => by
    cases q : H b with
    | none => rfl
    | some u =>
      have e' : b = a := one b (by rw [q]; simp)
      subst e'
      rw [ha] at e
      cases e
      exact absurd rfl (d _ _)
  have nsOf : ∀ {b : Addr} {m : Str → Option Value}, t.heap.Ns b m → (hidT t.heap H).Ns b m := fun {b m} ⟨o, es, ep, e, d, z⟩ => ⟨o, es, ep, sink e (free e fun its n y => by rw [d] at y; cases y), d, z⟩
  have kinB : K.In (hidT t.heap H) := fun b o e => sink (kin b o e) (by
    cases q : H b with
    | none => rfl
    | some u =>
      have e' : b = a := one b (by rw [q]; simp)
      subst e'
      rw [notK (by rw [q]; simp)] at e
      cases e)
  obtain ⟨mc, l1, l2⟩ := hlim
  have e0 : Env0 P w K mg (hidT t.heap H) callerA [] t H :=
    { frames := rfl, mod := ⟨kinB, nsOf hns, ⟨mb, nsOf hb, hbb⟩, ⟨mc, nsOf l1, l2⟩⟩, bs := fun b o e => of_hidT e, bsz := Nat.le_of_eq (hidT_size _ _), funs := trivial, frf := (fun b z => nomatch z), hok := hok, bare := .of_eq hgn }
  obtain ⟨as, hf⟩ := hf
  -- what is known for good: the script alone
  have sp : spF c 1 F [.ref a] H (fun v _ => v = .bl true) fun _ _ _ => False := by
    let G0 : Hp := fun b => if b = a then H b else none
    have g1 : ∀ b, b = a → G0 b = H b := fun b z => if_pos z
    have g2 : ∀ b, b ≠ a → G0 b = none := fun b z => if_neg z
    refine ⟨rfl, G0, [.t (.scr ns)], [[]], fun b o e => ?_, ⟨⟨rfl, ?_⟩, trivial⟩, fun i j y h1 h2 => ?_, (fun b z => by simp at z), ?_⟩
    · by_cases z : b = a
      · rw [g1 b z] at e; exact e
      · rw [g2 b z] at e; cases e
    · simp only [Rep]
      refine ⟨a, rfl, ?_⟩
      rw [hc]
      rcases hS with (z | ⟨o, z⟩) | z
      · exact .inl (.inl (by rw [g1 a rfl]; exact z))
      · exact .inl (.inr ⟨o, by rw [g1 a rfl]; exact z⟩)
      · exact .inr z
    · cases i <;> simp at h1
    · rw [hf]
      intro H' G' v st rr ar
      exact rr
  refine codeAny_mono ((hF _ kinB (nsOf hns)).run callerA [] t H ⟨[.ref a], []⟩ [.ref a] [.ref a] _ _ hr e0 (hbind t (.ref a)) (.cons rfl .nil) sp) fun z t' h => ?_
  match z, h with
  | .error e, h =>
    obtain ⟨_, _, _, _, _, _, _, _, _, _, _, _, bad⟩ := h
    exact bad.elim
  | .ok .next, h => exact h.elim
  | .ok .brk, h => exact h.elim
  | .ok .cont, h => exact h.elim
  | .ok (.ret u), h =>
    obtain ⟨v, H', os, bare, un, hok', rv, q⟩ := h
    have q' : v = .bl true := q
    subst q'
    obtain rfl : u = Value.bool true := rv
    refine ⟨rfl, OldK.of_keep fun b o e => ?_, os, bare⟩
    cases q : H b with
    | none => exact un.keep b o e q (fun z => nomatch z) (fun z => nomatch z)
    | some u =>
      rcases hO b with z | ⟨ob, xs, z⟩
      · rw [q] at z; cases z
      · obtain ⟨e1, _⟩ := hok b _ z
        obtain ⟨e2, _⟩ := hok' b _ (un.frzs b ob _ z)
        rw [e] at e1
        cases e1
        exact e2
theorem lawCall (kin : K.In t.heap) (hns : t.heap.Ns mainGlobals mg) (hb : t.heap.Ns builtinsNs mb) (hbb : ∀ y : Str, y ≠ "__name__" → mb y = bootBuiltins y) (hlim : t.heap.NoLimit) (hgn : t.gens = #[]) (ha : t.heap.get? a = some { cls := .type "list", data := .seq vs.toArray }) (hi : IntsAre vs ns) (hl : ns.length ≤ sizeLine) (hr : RoomG k callerA)
    (hF : ∀ base : Heap, K.In base → base.Ns mainGlobals mg → FnG P w K mg base k g fd [x] (spF c 1 F)) (hbind : ∀ (st : Shared) (u : Value), BindsTo st fd ⟨[u], []⟩ [(x, u)]) (hc : c.K = K) (hf : ∃ as, F [.t (.scr ns)] = .ret (.t (.bl true)) as) :
    codeAny (model P w) callerA (.call (.ref g) ⟨[.ref a], []⟩) (fun z t' => z = .ok (.ret (.bool true)) ∧ OldK t.heap t'.heap ∧ t'.os = t.os ∧ AllBare t'.gens) t := by
  have rv := vals_ints hi
  have lv := hi.length
  cases hk : K.lookup a with
  | some o =>
    have e := kin a o hk
    rw [ha] at e
    cases e
    exact lawAt (fun _ => none) (fun _ => .inl rfl) (.inr ⟨_, vs.toArray, _, hk, rfl, rfl, rfl, by rw [List.size_toArray, lv]; exact hl, by simpa using rv⟩) (fun b u z => nomatch z) (fun b z => absurd rfl z) (fun z => absurd rfl z) kin hns hb hbb hlim hgn ha hr hF hbind hc hf
  | none =>
    let H0 : Hp := fun b => if b = a then some (.frz { cls := .type "list", data := .seq vs.toArray } (.lst (ns.map V.int))) else none
    have at_a : H0 a = some (.frz { cls := .type "list", data := .seq vs.toArray } (.lst (ns.map V.int))) := if_pos rfl
    have off : ∀ b, b ≠ a → H0 b = none := fun b z => if_neg z
    refine lawAt H0 (fun b => ?_) (.inl (.inr ⟨_, at_a⟩)) (fun b u z => ?_) (fun b z => ?_) (fun _ => hk) kin hns hb hbb hlim hgn ha hr hF hbind hc hf
    · by_cases z : b = a
      · rw [z]; exact .inr ⟨_, _, at_a⟩
      · exact .inl (off b z)
    · by_cases y : b = a
      · subst y
        rw [at_a] at z
        cases z
        exact ⟨ha, by rw [List.length_map]; exact hl, vs, _, rv, ha⟩
      · rw [off b y] at z; cases z
    · by_cases y : b = a
      · exact y
      · exact absurd (off b y) z
end
/-- the law over a head by facts -/
theorem walkG {l : PySem.W.OpenLaw} {n k : Nat} {q : Program} {loose : List Str} {XP : (Str → Option Value) → Heap → Prop} {YP : World → Heap → Prop} {d : DefRec} {x : Str} (hn : l.most = some n) (hn2 : n ≤ sizeLine) (hdf : d.params.defaults = []) (hr : RoomG k callerA)
    (hY : ∀ (w : World) (mg : Str → Option Value) (fa : Addr) (h : Heap), YP w h → h.Ns mainGlobals mg → mg d.name = some (.ref fa) → ∃ (K : PySem.W.Frag) (fd : FuncData) (c : TC) (F : FSem), K.In h ∧ (∀ (st : Shared) (u : Value), BindsTo st fd ⟨[u], []⟩ [(x, u)]) ∧ c.K = K ∧
      (∀ ns : List Int, ns.length ≤ n → ∃ as, F [.t (.scr ns)] = .ret (.t (.bl true)) as) ∧ ∀ base : Heap, K.In base → base.Ns mainGlobals mg → FnG l.prog w K mg base k fa fd [x] (spF c 1 F)) :
    PySem.W.WalkO q loose XP YP l.row.toRowW d [] (fun f vs => PySem.call f vs) := by
  refine Att.attach_call hn hdf fun w s0 t mg mb fa o pm cd doc a vs ns G Y ho hd hcd hmg hobj hints hlen hg => ?_
  obtain ⟨K, fd, c, F, kin, hb, hc, hf, hF⟩ := hY w mg fa _ Y G.T.g hmg
  exact lawCall kin G.T.g G.T.b G.T.builtins G.T.nolimit hg hobj hints (Nat.le_trans hlen hn2) hr hF hb hc (hf ns hlen)
theorem room_top {k : Nat} (h : Room k callerA) : RoomG k callerA := ⟨h, rfl⟩
end TreeL
end
section
/-! TL16: enumerate over tuples, names, the head's facts. -/
namespace TreeL
open PySem PySem.Spec PyProof.Rows L2
set_option maxHeartbeats 4000000 in
theorem meets_enum_new1 {v : Value} {o : Obj} {H : Heap → Prop} (B : Begins v o H) :
    Meets (Builtin.«enumerate.__new__» ⟨[.type "enumerate", v], []⟩) (fun _ R s => H s.heap ∧
      R (.ok (.ret (.ref (s.heap.push o).objs.size))) { s with heap := (s.heap.push o).push { cls := .type "enumerate", data := .fields #[.none, .bool false, .ref s.heap.objs.size, rawInt 0, .none, .none] } }) :=
  .of_wp fun prog w A R s h => by
    obtain ⟨hp, g, d, tk, os⟩ := s; obtain ⟨h1, h⟩ := h
    have hsub := sub_enumerate
    have q1 : ∀ {A' : Around} {E : Value → Shared → Prop} {Q : Value → Shared → Prop}, Q (.ref hp.objs.size) ⟨hp.push o, g, d, tk, os⟩ → wpAny (model prog w) A' (pyIter v) Q E ⟨hp, g, d, tk, os⟩ :=
      fun q => B.iter prog w _ _ ⟨hp, g, d, tk, os⟩ _ h1 q
    wp_walk using q1
    refine wpAny_stack_any fun st => wpAny_pure ?_
    split
    · rename_i c _ _ _ _ _
      cases (c == Value.type "enumerate")
      · wp_walk using q1
        exact ⟨_, rfl, h⟩
      · wp_walk using q1
        exact ⟨_, rfl, h⟩
    · wp_walk using q1
      exact ⟨_, rfl, h⟩
section
variable {prog : Program} {w : World} {A : Around} {E : Value → Shared → Prop} {s : Shared}
theorem enum_begins1 {v : Value} {o : Obj} {H : Heap → Prop} {Q : Value → Shared → Prop} (B : Begins v o H) (h1 : H s.heap)
    (h : ∀ h', IsEnum h' (s.heap.objs.size + 1) s.heap.objs.size 0 .none → h'.get? s.heap.objs.size = some o → h'.objs.size = s.heap.objs.size + 2 →
      (∀ b o, s.heap.get? b = some o → h'.get? b = some o) → Q (.ref (s.heap.objs.size + 1)) { s with heap := h' }) :
    wpAny (model prog w) A (call (.type "enumerate") [v]) Q E s := by
  refine callType_new F.called_enumerate (by decide) (F.typeCall_enumerate_1 _) (F.newCall_enumerate_1 _) (fun obj => F.args_object_init_2 obj _) F.entry_enumerate_new
    (meets_enum_new1 B) ⟨h1, ?_⟩
  have hz : (s.heap.push o).objs.size = s.heap.objs.size + 1 := Heap.size_push ..
  show _ ∧ _
  rw [hz]
  have he : IsEnum ((s.heap.push o).push { cls := .type "enumerate", data := .fields #[.none, .bool false, .ref s.heap.objs.size, rawInt 0, .none, .none] }) (s.heap.objs.size + 1) s.heap.objs.size 0 .none := by
    have := Heap.get?_push_size (s.heap.push o) (o := { cls := .type "enumerate", data := .fields #[.none, .bool false, .ref s.heap.objs.size, rawInt 0, .none, .none] }) rfl
    rw [hz] at this; exact this
  refine ⟨⟨_, he, rfl⟩, h _ he (Heap.get?_push_of_some _ (Heap.get?_push_size _ B.free)) (by rw [Heap.size_push, hz]) fun b o x => Heap.get?_push_of_some _ (Heap.get?_push_of_some _ x)⟩
end
def IteT (K : PySem.W.Frag) (a : Addr) : It :=
  ⟨fun i H => ∃ (xs : List V) (x : V), SqT K H a xs ∧ xs[i]? = some x, fun i H v H' => ∃ T x, v = .ref T ∧ H T = none ∧ H' = upd H T (.tup [.int (i : Nat), x]) ∧ ∀ xs, SqT K H a xs → xs[i]? = some x, fun i H => ∃ xs : List V, SqT K H a xs ∧ xs.length ≤ i⟩
theorem wpAny_pyNext_enum_endT {prog : Program} {w : World} {A : Around} {E : Value → Shared → Prop} {s : Shared} {e it l : Addr} {i : Nat} {j : Int} {items : Array Value} {old : Value} {Q : Option Value → Shared → Prop} (hh : A.handled = none)
    (he : IsEnum s.heap e it j old) (hit : s.heap.IsTupleIter it l i) (hl : s.heap.IsTuple l items) (hx : items[i]? = none)
    (hQ : ∀ h', Heap.ExtBut it s.heap h' → Q none { s with heap := h' }) : wpAny (model prog w) A (pyNext (.ref e)) Q E s := by
  have hT : s.TypeIs (.ref e) "enumerate" := ⟨_, he, rfl⟩
  unfold pyNext
  refine wpAny_bind (wpAny_attempt (wpAny_callSpecial?_slot (name := Str.ofString "__next__") hT F.slot_enumerate_next
    (wpAny_call_entry F.slot_enumerate_next hT F.entry_enumerate_next ?_ (F.args_enumerate_next_1 _))))
  show wpAny _ _ (field (.ref e) 2 >>= _) _ _ _
  refine wpAny_bind (wpAny_field he rfl (x := .ref it) rfl ?_)
  refine wpAny_bind (wpAny_nextOf_tuple_end hh hit hl hx fun h' x he' hx' => ?_)
  obtain ⟨o, ho, hc⟩ := hx'
  refine wpAny_bind (wpAny_isInstance (T := "StopIteration") (b := true) ⟨o, ho, hc⟩ isSubtype_stop ?_)
  exact wpAny_pure (hQ _ he')
theorem turn_enumT {P : Program} {w : World} {K : PySem.W.Frag} {elts : List Expr} {kk : Nat} {tpos : Pos} (a e it : Addr) :
    Turn P w K (.Tuple elts kk tpos) (IteT K a) [e, it] e (fun i h => (∃ old, IsEnum h e it ((i : Nat) : Int) old) ∧ h.IsTupleIter it a i ∧ e ≠ it ∧ e ≠ a ∧ a ≠ it) where
  mem := by simp
  obj := fun i h st b hb => by
    obtain ⟨⟨old, he⟩, ⟨o, ho, hc, hd⟩, _⟩ := st
    have e' : b = e ∨ b = it := by simpa using hb
    rcases e' with z | z
    · rw [z]; exact ⟨_, he, fun v q => nomatch q⟩
    · rw [z]; exact ⟨o, ho, fun v q => by rw [hd] at q; cases q⟩
  keep := fun i h h' st k => let ⟨⟨old, he⟩, hi, hne⟩ := st; ⟨⟨old, k e (by simp) _ he⟩, hi.at fun o q => k it (by simp) o q, hne⟩
  item := by
    intro X hP hw hK hc i pins s σ H E I hf st hg
    subst hP hw hK
    obtain ⟨⟨old, he⟩, hit, hne, hea, hai⟩ := st
    obtain ⟨xs, x, hq, hx⟩ := hg
    obtain ⟨its, rv, p, hz⟩ := I.tuple hq
    obtain ⟨u, hu, ru⟩ := rv.get hx
    have hel : e < s.heap.objs.size := Heap.lt_size he
    have hil : it < s.heap.objs.size := by obtain ⟨_, q, _⟩ := hit; exact Heap.lt_size q
    have hlt : i < its.toArray.size := by
      have z := (List.getElem?_eq_some_iff.mp hu).1
      simpa using z
    refine wpAny_pyNext_enum_itemD (Draws.tuple (by first | exact I.ok.hd hc | exact (I.ok.hd hc)) it a hai its.toArray) he ⟨hit, p⟩ hlt hne (by simp [hne, hea]) fun y h' tk hy ho st' hT hsz hk => ?_
    have eu : y = u := by
      have : its[i]? = some y := by simpa using hy
      rw [hu] at this; cases this; rfl
    subst eu
    refine ⟨_, rfl, wpAny_letOwnedTupleGo_enum (s := { s with heap := h', toks := tk + 1 }) ho fun h'' he' sb => ?_⟩
    have hT2 : h''.get? s.heap.objs.size = some { cls := .type "tuple", data := .seq #[.int i tk, y] } := (sb.2 _ (Nat.ne_of_gt hel)).trans hT
    have new : ObjOk X.prog X.w (upd H s.heap.objs.size (.tup [.int (i : Nat), x])) h'' s.heap.objs.size (.tup [.int (i : Nat), x]) :=
      ⟨by show 2 ≤ sizeLine; decide, [.int i tk, y], .cons ⟨_, rfl⟩ (.cons ru .nil), ⟨_, hT2, rfl, _, rfl⟩⟩
    have I1 : Inv X pins σ (upd H s.heap.objs.size (.tup [.int (i : Nat), x])) { s with heap := h'', toks := tk + 1 } :=
      I.turnedNew (ch := [e, it]) (fun b ob hb q => (sb.2 b (fun z => hb (by simp [z]))).trans (hk b ob (fun z => hb (by simp [z])) (fun z => hb (by simp [z])) q)) hf (Nat.le_refl _) new
    refine ⟨.ref s.heap.objs.size, _, I1, rfl, ⟨_, x, rfl, I.hok.fresh (Nat.le_refl _), rfl, fun ys hy => by rw [I.tuple_inj hy hq]; exact hx⟩, ⟨⟨y, ?_⟩, st'.1.at fun o q => (sb.2 it (Ne.symm hne)).trans q, hne, hea, hai⟩, fun b hb => ?_⟩
    · have e1 : ((i + 1 : Nat) : Int) = (i : Int) + 1 := by omega
      rw [e1]; exact he'
    · have hb' : b < s.heap.objs.size := by
        have e' : b = e ∨ b = it := by simpa using hb
        rcases e' with z | z
        · rw [z]; exact hel
        · rw [z]; exact hil
      rw [upd_ne (Nat.ne_of_lt hb')]
      exact (hf b hb).1
  done := by
    intro X hP hw hK hc i pins s σ H E I hf st hg
    subst hP hw hK
    obtain ⟨⟨old, he⟩, hit, hne, hea, hai⟩ := st
    obtain ⟨xs, hq, hx⟩ := hg
    obtain ⟨its, rv, p, hz⟩ := I.tuple hq
    obtain ⟨f0, f1, f2, f3, f4, f5⟩ := hf it (by simp)
    have hl := rv.length
    exact wpAny_pyNext_enum_endT (I.ok.hd hc) he hit p (by simp; omega) fun h' eb => ⟨rfl, I.turned (t' := s.toks) (fun b o hb q => eb b o hb q) f0 f1 f3 f4 f5⟩
  self := fun A i s Q E st h => let ⟨⟨_, he⟩, _⟩ := st; wpAny_pyIter_enum he h
def iEnumT (K : PySem.W.Frag) (ta : TA) : TI := fun σ H R => ta σ H fun vs H1 => ∃ a xs, vs = [.ref a] ∧ SqT K H1 a xs ∧ R (IteT K a) H1
theorem pi_enumT {X : Cx} {e : Expr} {ta : TA} {p pos tpos : Pos} {elts : List Expr} {kk : Nat} (hg : Gl X "enumerate") (hm : X.mg "enumerate" = none) (ha : PA X [e] ta) (hs : starEach [e] X.env = [(false, eval e X.env)] := by rfl) :
    PI X (.Tuple elts kk tpos) (.Call (.Name "enumerate" p) [e] [] pos) (iEnumT X.K ta) := by
  refine ⟨fun pins s σ H R I h => ?_⟩
  refine Call_ (ld_blt I hg hm boot_enumerate (PyProof.Rows.callWith_type1 (thn (ha.run pos pins s σ H _ I h) fun us s1 ⟨vs, H1, I1, r1, q1⟩ => ?_) hs rfl))
  obtain ⟨a, xs, ex, hq, q⟩ := q1
  subst ex
  cases r1 with
  | cons r rr =>
    cases rr
    cases r
    obtain ⟨its, rv, p', hz⟩ := I1.tuple hq
    have ha : a < s1.heap.objs.size := by obtain ⟨o, q, _⟩ := p'; exact Heap.lt_size q
    refine enum_begins1 (begins_tuple a its.toArray) p' fun h' he hit hsz hk => wpAny_pyIter_enum he ?_
    have I2 : Inv X pins σ H1 { s1 with heap := h' } := I1.kept (t' := s1.toks) hk
    refine ⟨s1.heap.objs.size + 1, [s1.heap.objs.size + 1, s1.heap.objs.size], _, _, H1, rfl, I2, turn_enumT a (s1.heap.objs.size + 1) s1.heap.objs.size, ⟨⟨.none, he⟩, ⟨_, hit, rfl, rfl⟩, Nat.succ_ne_self _, Nat.ne_of_gt (Nat.lt_succ_of_lt ha), Nat.ne_of_lt ha⟩, fun b hb => ?_, q⟩
    have e' : b = s1.heap.objs.size + 1 ∨ b = s1.heap.objs.size := by simpa using hb
    have hle : s1.heap.objs.size ≤ b := by
      rcases e' with z | z
      · rw [z]; exact Nat.le_add_right _ _
      · rw [z]; exact Nat.le_refl _
    exact I1.fpOk hle (I1.hok.fresh hle)
section
variable {X : Cx} {c : TC} {r : Ref} {W : WX} {tg e a b : Expr} {ea : EvE} {el : EvA} {pos p : Pos}
theorem itok_enumT {G : Hp} {p : Addr} {x : Vl} {ts : List PV} {vs : List V} (h : SqT c.K G p vs) (rr : RepL c G ts vs) : ItOk c r G x (enumL 0 ts) (IteT c.K p) := fun i ads G' H σ env R s1 _ => by
  have h' : SqT c.K H p vs := R.sub.sqT (s1.sqT h)
  refine ⟨fun t ht => ?_, fun hl => ⟨vs, h', by rw [rr.length]; rw [enumL_len] at hl; exact hl⟩⟩
  rw [enumL_get] at ht
  obtain ⟨t0, h0, rfl⟩ := map_some ht
  obtain ⟨u, hu, ru⟩ := rr.get h0
  refine ⟨⟨vs, u, h', hu⟩, fun v H' ⟨T, w, e1, hT, e2, y⟩ => ?_⟩
  subst e1; subst e2
  have z := y vs h'
  rw [hu] at z; cases z
  have q := rep_pair (x := .int ((0 + i : Nat) : Int)) (u := .int ((i : Nat) : Int)) R.sub hT (by rw [Nat.zero_add]; exact rep_int G') (ru.mono s1)
  exact ⟨_, q⟩
/-- enumerate over a list or a tuple -/
@[simp] def iEnumS (el : EvA) : EvI := fun env => (el env).bind fun xs e => match trees xs with
  | some [.lst ts] => .ok ⟨enumL 0 ts, .tr .non⟩ e
  | some [.tup ts] => .ok ⟨enumL 0 ts, .tr .non⟩ e
  | _ => .bad
theorem ti_enumS {elts : List Expr} {kk : Nat} {tpos : Pos} (hK : X.K = c.K) (hg : Gl X "enumerate") (hm : X.mg "enumerate" = none) (ha : PA X [e] (TAof c r W el)) (hs : starEach [e] X.env = [(false, eval e X.env)] := by rfl) : PI X (.Tuple elts kk tpos) (.Call (.Name "enumerate" p) [e] [] pos) (TIof c r W (iEnumS el)) := by
  refine PI.imp (PI.or (pi_enum hg hm ha hs) (pi_enumT hg hm ha hs)) fun σ H R ⟨ads, G, env, R0, h⟩ => ?_
  have h' := Sat_bind.mp h
  cases q : el env with
  | bad => rw [q] at h'; exact h'.elim
  | exc x e1 =>
    rw [q] at h'
    exact .inl ⟨ads, G, env, R0, by rw [q]; exact h'⟩
  | ok xs e1 =>
    rw [q, RE.Sat] at h'
    cases q2 : trees xs with
    | none => rw [q2] at h'; exact h'.elim
    | some ts =>
      rw [q2] at h'
      rcases ts with _ | ⟨t, _ | ⟨t2, rest⟩⟩
      · exact h'.elim
      · have lstC : ∀ us, t = .lst us → (iEnum X.K (TAof c r W el) σ H R ∨ iEnumT X.K (TAof c r W el) σ H R) := fun us et => by
          subst et
          refine .inl ⟨ads, G, env, R0, ?_⟩
          rw [q]
          intro ads1 G1 H1 vs R1 s1 p1
          obtain ⟨v, u, rfl, rv, ru⟩ := trees_rep p1 q2
          cases ru
          simp only [Rep] at rv
          obtain ⟨a, ws, rfl, hx, rw⟩ := rv
          exact ⟨a, ws, rfl, .inl (.inl (R1.sub _ _ hx)), h' ads1 G1 H1 _ R1 s1 (itok_enum hx rw)⟩
        have tupC : ∀ us, t = .tup us → (iEnum X.K (TAof c r W el) σ H R ∨ iEnumT X.K (TAof c r W el) σ H R) := fun us et => by
          subst et
          refine .inr ⟨ads, G, env, R0, ?_⟩
          rw [q]
          intro ads1 G1 H1 vs R1 s1 p1
          obtain ⟨v, u, rfl, rv, ru⟩ := trees_rep p1 q2
          cases ru
          simp only [Rep] at rv
          obtain ⟨a, ws, rfl, hx, rw⟩ := rv
          refine ⟨a, ws, rfl, ?_, ?_⟩
          · rw [hK]; exact R1.sub.sqT hx
          · rw [hK]; exact h' ads1 G1 H1 _ R1 s1 (itok_enumT hx rw)
        cases t with
        | lst us => exact lstC us rfl
        | tup us => exact tupC us rfl
        | _ => exact h'.elim
      · cases t <;> exact h'.elim
end
end TreeL
end
section
/-! TL17: the head's facts as one list of Bools over the fragment, their readings. -/
namespace TreeL
open PySem PySem.Spec PyProof.Rows L2
/-! ### the Hook: Bools and defs -/
def obsT (fs : List (PySem.W.Frag → Bool)) (fn : List He5.DefA) (K : PySem.W.Frag) : He.AlD := ((fs.all fun f => f K) && fn.all fun d => d.ok K, fn.map fun d => He5.fnA K (d.at_ K))
def valT (fn : List He5.DefA) : He.AlD := (true, fn.map He5.DefA.val)
def SaysT (fs : List (PySem.W.Frag → Bool)) (fn : List He5.DefA) (K : PySem.W.Frag) : Prop := obsT fs fn K = valT fn
def obsTG (n : Nat) (fs : List (PySem.W.Frag → Bool)) (fn : List He5.DefA) (g : Addr → Option Obj) : He.AlD := obsT fs fn (He.frG g (He5.asA g n))
def hookT (n : Nat) (fs : List (PySem.W.Frag → Bool)) (fn : List He5.DefA) : PySem.W.Hook where
  α := He.AlD
  obs := fun s => obsTG n fs fn s.heap.get?
  val := fun _ => valT fn
  says := fun _ h => ∃ K : PySem.W.Frag, K.In h ∧ SaysT fs fn K
  of := fun _ _ e => ⟨_, He.frG_in, e⟩
  keeps := fun _ _ _ ⟨K, hK, c⟩ k => ⟨K, PySem.W.Frag.In.keeps hK k, c⟩
theorem obsTG_eq {n : Nat} {fs : List (PySem.W.Frag → Bool)} {fn : List He5.DefA} {g : Addr → Option Obj} {s : Shared} (h : ∀ a, g a = s.heap.get? a) : obsTG n fs fn g = (hookT n fs fn).obs s := by
  have e : g = s.heap.get? := funext h
  rw [e] <;> rfl
section
variable {fs : List (PySem.W.Frag → Bool)} {fn : List He5.DefA} {K : PySem.W.Frag}
theorem SaysT.fact (c : SaysT fs fn K) (i : Nat) {f : PySem.W.Frag → Bool} (h : fs[i]? = some f := by rfl) : f K = true := by
  have c1 := (He.ba (show ((fs.all fun f => f K) && fn.all fun d => d.ok K) = true from congrArg (fun z : He.AlD => z.1) c)).1
  exact List.all_eq_true.mp c1 f (List.mem_of_getElem? h)
theorem SaysT.def_ (c : SaysT fs fn K) (i : Nat) {d : He5.DefA} (h : fn[i]? = some d := by rfl) : ∃ fd, FunD K d.name d.qual d.params d.body d.scope (d.dvs K) (d.kws K) (d.at_ K) fd := by
  have c2 := (He.ba (show ((fs.all fun f => f K) && fn.all fun d => d.ok K) = true from congrArg (fun z : He.AlD => z.1) c)).2
  have e : fn.map (fun d => He5.fnA K (d.at_ K)) = fn.map He5.DefA.val := congrArg (fun z : He.AlD => z.2) c
  have e2 : (fn.map fun d => He5.fnA K (d.at_ K))[i]? = (fn.map He5.DefA.val)[i]? := by rw [e]
  rw [List.getElem?_map, List.getElem?_map, h] at e2
  exact He5.DefA.funD (Option.some.inj e2) (List.all_eq_true.mp c2 d (List.mem_of_getElem? h))
end
/-! ### facts -/
/-- the classes' numbers: places in the list of names -/
def tcN (K : PySem.W.Frag) (cs : List Str) : TC := ⟨fun i => He.ga K (cs.getD i Str.empty), K⟩
inductive Tgt where
  | ty (n : String) | own (i : Nat)
def Tgt.val (c : TC) : Tgt → Value
  | .ty n => .type n
  | .own i => .ref (c.C i)
def Tgt.v (c : TC) : Tgt → V
  | .ty n => .ty n
  | .own i => .ref (c.C i)
theorem Tgt.cls (c : TC) : ∀ t : Tgt, ClsV (t.v c) (t.val c)
  | .ty n => .ty n
  | .own i => .own _
def kinds (ks : List Nat) : List Kd := [.non, .bl, .int, .str, .lst, .tup, .dct] ++ ks.map .ins
@[simp] def tbY (yes : List Kd) : Kd → Option Bool
  | .other => none
  | d => some (yes.contains d)
def isiB (cs : List Str) (ks : List Nat) (yes : List Kd) (ts : List Tgt) (K : PySem.W.Frag) : Bool := (kinds ks).all fun d => decide (PySem.W.kitAny K (tyVal (tcN K cs) d) (ts.map (Tgt.val (tcN K cs))) = tbY yes d)
theorem isiB_ok {cs : List Str} {ks : List Nat} {yes : List Kd} {ts : List Tgt} {K : PySem.W.Frag} (h : isiB cs ks yes ts K = true) : ∀ d b, (∀ k, d = .ins k → ks.contains k = true) → tbY yes d = some b → PySem.W.kitAny (tcN K cs).K (tyVal (tcN K cs) d) (ts.map (Tgt.val (tcN K cs))) = some b := by
  intro d b hk e
  have h1 := List.all_eq_true.mp h
  have m : d ∈ kinds ks := by
    unfold kinds
    cases d with
    | ins k => exact List.mem_append_right _ (List.mem_map_of_mem (List.contains_iff_mem.mp (hk k rfl)))
    | other => cases e
    | _ => exact List.mem_append_left _ (by simp)
  have z := of_decide_eq_true (h1 d m)
  rw [← e]
  exact z
theorem kitOne_of {K : PySem.W.Frag} {t u : Value} {b : Bool} (h : PySem.W.kitAny K t [u] = some b) : PySem.W.kitOne K t u = some b := by
  simp only [PySem.W.kitAny] at h
  cases q : PySem.W.kitOne K t u with
  | none => rw [q] at h; cases h
  | some z =>
    rw [q] at h
    cases z with
    | true => exact h
    | false => exact h
def isicB (x : Str) (K : PySem.W.Frag) : Bool := (He.Fa.cls x).ok K && (He.eqO (PySem.W.findIn K (.ref (He.ga K x)) "__class__") (some (some (.builtin "object.__class__"))) && (He.eqO (PySem.W.specialIn K (.builtin "object.__class__") "__get__") (some (some (.builtin "getset_descriptor.__get__"))) &&
  (decide (PySem.W.takesIn K (.builtin "object.__class__") = some true) && decide (PySem.W.mroIn K (He.ga K x) (.type "object") = some true))))
theorem isicB_ok {x : Str} {K : PySem.W.Frag} (h : isicB x K = true) : IsiC K (He.ga K x) := by
  obtain ⟨h1, h⟩ := He.ba h
  obtain ⟨h2, h⟩ := He.ba h
  obtain ⟨h3, h⟩ := He.ba h
  obtain ⟨h4, h5⟩ := He.ba h
  exact ⟨He.cls_ok h1, He.eqO_ok h2, He.eqO_ok h3, of_decide_eq_true h4, of_decide_eq_true h5⟩
theorem own_of {K : PySem.W.Frag} {C f : Addr} {m : Str} (h : Meth K C m f) : OwnM K C m f := ⟨h.at_, h.fn⟩
def neB (x : Str) (K : PySem.W.Frag) : Bool := He.eqO (PySem.W.findIn K (.ref (He.ga K x)) "__ne__") (some (some (.builtin "object.__ne__")))
def mroOb (x : Str) (K : PySem.W.Frag) : Bool := decide (PySem.W.mroIn K (He.ga K x) (.type "object") = some true)
theorem mroOb_ok {x : Str} {K : PySem.W.Frag} (h : mroOb x K = true) : PySem.W.mroIn K (He.ga K x) (.type "object") = some true := of_decide_eq_true h
def fnInB (x m : Str) (K : PySem.W.Frag) : Bool := PySem.W.fnIn K (He.ma K (He.ga K x) m)
def cmB (x m : Str) (K : PySem.W.Frag) : Bool := He5.wrapB K (He.ga K x) "classmethod" "classmethod.__get__" m && PySem.W.fnIn K (He5.wf K (He.ga K x) "classmethod" m)
theorem cmB_ok {x m : Str} {K : PySem.W.Frag} (h : cmB x m K = true) : ClX.CMet K (He.ga K x) (.type "type") m (He.ma K (He.ga K x) m) (He5.wf K (He.ga K x) "classmethod" m) := by
  obtain ⟨h1, h2⟩ := He.ba h
  exact He5.cmet_of h1 h2
def creadB (x : Str) (K : PySem.W.Frag) : Bool := PySem.W.readsIn K (He.ga K x) (.type "type") && He.eqO (PySem.W.specialIn K (.ref (He.ga K x)) "__getattribute__") (some (some (.builtin "type.__getattribute__")))
theorem creadB_ok {x : Str} {K : PySem.W.Frag} (h : creadB x K = true) : ClX.CRead K (He.ga K x) (.type "type") := by
  obtain ⟨h1, h2⟩ := He.ba h
  exact ⟨h1, He.eqO_ok h2⟩
/-- a tuple of strings in the module -/
theorem krep_tupS {c : TC} {a : Addr} {xs : List Str} (h : ∀ H, SqT c.K H a (xs.map V.str)) (g : ∀ x ∈ xs, StrG x) : ∀ G, Rep c G (.tup (xs.map .str)) (.ref a) := fun G => by
  simp only [Rep]
  refine ⟨a, _, rfl, h G, ?_⟩
  clear h
  induction xs with
  | nil => rfl
  | cons x r ih => exact ⟨_, _, rfl, ⟨rfl, g x List.mem_cons_self⟩, ih fun y hy => g y (List.mem_cons_of_mem _ hy)⟩
theorem dv_strs {K : PySem.W.Frag} {xs : List Str} : (xs.map He.Dv.str).map (He.Dv.v K) = xs.map V.str := by
  rw [List.map_map]; rfl
/-- the tuple at a is empty -/
def nilAt (a : PySem.W.Frag → Addr) (K : PySem.W.Frag) : Bool := match K.lookup (a K) with
  | some ⟨.type c, _, .seq its _, _⟩ => decide (c = "tuple") && its.isEmpty
  | _ => false
theorem nilAt_ok {a : PySem.W.Frag → Addr} {K : PySem.W.Frag} (h : nilAt a K = true) (H : Hp) : SqT K H (a K) [] := by
  unfold nilAt at h
  split at h
  · rename_i c od its n sl q
    obtain ⟨h1, h2⟩ := He.ba h
    have e : its = #[] := by simpa using h2
    subst e
    exact .inr ⟨_, #[], n, q, congrArg Value.type (of_decide_eq_true h1), rfl, by show 0 ≤ sizeLine; exact Nat.zero_le _, .nil⟩
  · cases h
theorem strG_by {x : Str} (h : (decide (x.length ≤ sizeLine) && PyData.strOk x) = true) : StrG x := by
  obtain ⟨h1, h2⟩ := He.ba h
  exact ⟨of_decide_eq_true h1, h2⟩
/-- the defaults that fill up, by binds1 -/
theorem Fill.of {c : TC} {K : PySem.W.Frag} {fd : FuncData} {ps : List Str} {dvs : List V} {ds : List PV} (h : ∃ dw, Vals dvs dw ∧ Binds K fd ps dw) (hr : ∀ G, RepL c G ds dvs) : Fill c K fd ps ds := by
  obtain ⟨dw, h1, h2⟩ := h
  exact ⟨dvs, dw, h1, h2, hr⟩
theorem takesW0 {X : Cx} : Takes X W0 := fun u s' ⟨a, B, sI, pins, σ, H, cls, d, e, I, nb, up, sky, na, os, ag, w⟩ => w.elim
theorem pe_gstr {X : Cx} {x z : Str} {p : Pos} (hg : Gl X x) (hm : ∃ t, X.mg x = some (.str z t)) (hd : (x == ("__debug__" : Str)) = false := by decide) : PE X (.Name x p) (tC (.str z)) := by
  obtain ⟨t, hm⟩ := hm
  exact pe_glob hg hm ⟨t, rfl⟩ hd
theorem pt_gstr {X : Cx} {c : TC} {r : Ref} {W : WX} {x z : Str} {p : Pos} (hg : Gl X x) (hm : ∃ t, X.mg x = some (.str z t)) (hs : StrG z) (hd : (x == ("__debug__" : Str)) = false := by decide) : PE X (.Name x p) (TEof c r W (eCon (.str z))) := pt_con (pe_gstr hg hm hd) fun _ => by
  simp only [Rep]; exact ⟨trivial, hs⟩
theorem pt_gref {X : Cx} {c : TC} {r : Ref} {W : WX} {x : Str} {t : PV} {a : Addr} {p : Pos} (hg : Gl X x) (hm : X.mg x = some (.ref a)) (hr : ∀ G, Rep c G t (.ref a)) (hd : (x == ("__debug__" : Str)) = false := by decide) : PE X (.Name x p) (TEof c r W (eCon t)) := pt_con (pe_glob (v := .ref a) (u := .ref a) hg hm rfl hd) hr
end TreeL
end
section
/-! TL18: own compares as tests; small things for printed walks. -/
namespace TreeL
open PySem PySem.Spec PyProof.Rows L2
theorem npin {r : Ref} {pn : List Nat} {i : Nat} (hp : r.pins.map Prod.fst = pn) (h : pn.contains i = false := by rfl) : (r.pins.map Prod.fst).contains i = false := by rw [hp]; exact h
theorem npins {r : Ref} {pn js : List Nat} (hp : r.pins.map Prod.fst = pn) (h : (js.all fun j => !pn.contains j) = true := by rfl) : ∀ j ∈ js, (r.pins.map Prod.fst).contains j = false := fun j hj => by
  rw [hp]
  have := List.all_eq_true.mp h j hj
  simpa using this
theorem subl {us js : List Nat} (h : (us.all fun j => js.contains j) = true := by rfl) : ∀ j ∈ us, j ∈ js := fun j hj => List.contains_iff_mem.mp (List.all_eq_true.mp h j hj)
def locB (sc : Scope) (x : Str) : Bool := match sc.names.lookup x with
  | some .local => true
  | some .cell => true
  | _ => false
theorem locOf {sc : Scope} {x : Str} (h : locB sc x = true := by rfl) : L2.Loc sc x := by
  unfold locB at h
  unfold L2.Loc
  split at h
  · rename_i e; exact .inl e
  · rename_i e; exact .inr e
  · cases h
section
variable {X : Cx} {c : TC} {r : Ref} {W : WX} {k : Nat}
theorem u64 (hr : RoomG k X.A) : X.A.units + 64 < cLine := by have := hr.rm.un; omega
theorem u65 (hr : RoomG k X.A) : X.A.units + 65 < cLine := by have := hr.rm.un; omega
theorem u1 (hr : RoomG k X.A) : X.A.units + 1 < cLine := by have := hr.rm.un; omega
end
@[simp] def tTst (er : EvR) : EvT := fun env => (er env).bind fun a e => match a with
  | .t (.bl b) => .ok b e
  | _ => .bad
section
variable {X : Cx} {c : TC} {r : Ref} {W : WX} {F : FSem} {ea eb : EvE} {k kc : Nat} {f : Addr} {fd : FuncData} {ps : List Str} {pos : Pos} {a b : Expr}
theorem tst_imp {er : EvR} {σ : L2.St} {H : Hp} {Q : Bool → Hp → Prop} (h : TTof c r W (tTst er) σ H Q) : TRof c r W er σ H (fun v H1 => ∃ b, v = .bl b ∧ Q b H1) := by
  obtain ⟨ads, G, env, R, h⟩ := h
  refine ⟨ads, G, env, R, Sat_mono (Sat_bind.mp h) (fun o e1 h1 ads1 G1 H1 v1 R1 s1 p1 => ?_) fun _ _ z => z⟩
  cases o with
  | ow _ => exact h1.elim
  | t t =>
    cases t with
    | bl b =>
      simp only [ResNew, Rep] at p1
      exact ⟨b, p1, h1 ads1 G1 H1 R1 s1⟩
    | _ => exact h1.elim
theorem eqOwn_run (M : OwnM X.K (c.C kc) "__eq__" f) (hF : FnG X.prog X.w X.K X.mg X.base k f fd ps (spF c 2 F)) (hb : Binds X.K fd ps []) (hr : RoomG k X.A) (tk : Takes X W) (ha : PE X a (TEof c r W ea)) (hbb : PE X b (TEof c r W eb))
    {pins : List (Addr × Obj)} {st : Shared} {σ : L2.St} {H : Hp} {Q : VK} (I : Inv X pins σ H st) (h : TRof c r W (rDun2 kc F gBl (isIns kc) ea eb) σ H Q) :
    wpAny (model X.prog X.w) X.A (eval a X.env) (fun v s1 => wpAny (model X.prog X.w) X.A (eval b X.env) (fun u s2 => wpAny (model X.prog X.w) X.A (compareOp .Eq v u) (EP X pins σ Q) X.xe s2) X.xe s1) X.xe st := by
  refine two_run (f2 := compareOp .Eq) pins_ok ha hbb (fun pins st σ H x y v u Q ads0 G0 H0 I rx ry ⟨⟨a1, dx, gs, e1, hH⟩, ⟨a2, dy, gs2, e2, hH2⟩, sp⟩ => ?_) I h
  subst e1; subst e2
  obtain rfl := (show v = Value.ref a1 from rx)
  obtain rfl := (show u = Value.ref a2 from ry)
  obtain ⟨ox, od, J⟩ := inst_of I hH
  obtain ⟨ox2, od2, J2⟩ := inst_of I hH2
  obtain ⟨m, fr⟩ := I.fr
  show wpAny _ _ (richCompare .Eq _ _) _ _ _
  refine PySem.W.cmp_K (op := .Eq) hr.rm.units0 fr I.ok.mod.kin J J2.type (by simp [PySem.W.notFirst]) M.at_ M.fn ?_
  refine thn (runG0 hF hb hr I.ok.frames (passAt tk σ) I (.cons rx (.cons ry .nil)) sp) fun u s2 ⟨v2, H2, I2, r2, qg⟩ => ?_
  obtain ⟨bb, rfl, q⟩ := qg.bl gBl_bl
  cases r2
  exact ⟨.bl bb, H2, I2, (show RelV (.bl bb) (.bool bb) from rfl), q⟩
theorem tt_eqOwn (M : OwnM X.K (c.C kc) "__eq__" f) (hF : FnG X.prog X.w X.K X.mg X.base k f fd ps (spF c 2 F)) (hb : Binds X.K fd ps []) (hr : RoomG k X.A) (tk : Takes X W) (ha : PE X a (TEof c r W ea)) (hbb : PE X b (TEof c r W eb)) :
    PT X (.Compare a [.Eq] [b] pos) (TTof c r W (tTst (rDun2 kc F gBl (isIns kc) ea eb))) := ⟨fun pins st σ H Q I h => by
  refine wpAny_isTrue_Compare1 (thn (eqOwn_run M hF hb hr tk ha hbb I (tst_imp h)) fun v s1 h1 => thn h1 fun u s2 h2 => thn h2 fun cv s3 ⟨z, H3, I3, r3, kk, e, q3⟩ => ?_) (nomark _)
  subst e
  cases r3
  exact wpAny_truthy_bool ⟨H3, I3, q3⟩⟩
theorem neOwn_run (M : OwnM X.K (c.C kc) "__eq__" f) (hne : PySem.W.findIn X.K (.ref (c.C kc)) "__ne__" = some (some (.builtin "object.__ne__"))) (hob : PySem.W.mroIn X.K (c.C kc) (.type "object") = some true) (hF : FnG X.prog X.w X.K X.mg X.base k f fd ps (spF c 2 F)) (hb : Binds X.K fd ps []) (hr : RoomG (k + 1) X.A) (tk : Takes X W) (ha : PE X a (TEof c r W ea)) (hbb : PE X b (TEof c r W eb))
    {pins : List (Addr × Obj)} {st : Shared} {σ : L2.St} {H : Hp} {Q : VK} (I : Inv X pins σ H st) (h : TRof c r W (rDun2 kc F gNot (isIns kc) ea eb) σ H Q) :
    wpAny (model X.prog X.w) X.A (eval a X.env) (fun v s1 => wpAny (model X.prog X.w) X.A (eval b X.env) (fun u s2 => wpAny (model X.prog X.w) X.A (compareOp .NotEq v u) (EP X pins σ Q) X.xe s2) X.xe s1) X.xe st := by
  refine two_run (f2 := compareOp .NotEq) pins_ok ha hbb (fun pins st σ H x y v u Q ads0 G0 H0 I rx ry ⟨⟨a1, dx, gs, e1, hH⟩, ⟨a2, dy, gs2, e2, hH2⟩, sp⟩ => ?_) I h
  subst e1; subst e2
  obtain rfl := (show v = Value.ref a1 from rx)
  obtain rfl := (show u = Value.ref a2 from ry)
  obtain ⟨ox, od, J⟩ := inst_of I hH
  obtain ⟨ox2, od2, J2⟩ := inst_of I hH2
  obtain ⟨m, fr⟩ := I.fr
  show wpAny _ _ (richCompare .NotEq _ _) _ _ _
  refine ne_K (by have := hr.rm.un; omega) fr I.ok.mod.kin J J2.type (by simp [PySem.W.notFirst]) hne hob M.at_ M.fn ?_
  refine thn (runG0 hF hb (RoomG.in1 hr) (frames_in1 I.ok.frames) (passAt tk σ) I (.cons rx (.cons ry .nil)) sp) fun u s2 ⟨v2, H2, I2, r2, qg⟩ => ?_
  obtain ⟨bb, rfl, q⟩ := qg.bl gNot_bl
  cases r2
  exact ⟨bb, rfl, .bl (!bb), H2, I2, (show RelV (.bl (!bb)) (.bool !bb) from rfl), q⟩
theorem tt_neOwn (M : OwnM X.K (c.C kc) "__eq__" f) (hne : PySem.W.findIn X.K (.ref (c.C kc)) "__ne__" = some (some (.builtin "object.__ne__"))) (hob : PySem.W.mroIn X.K (c.C kc) (.type "object") = some true) (hF : FnG X.prog X.w X.K X.mg X.base k f fd ps (spF c 2 F)) (hb : Binds X.K fd ps []) (hr : RoomG (k + 1) X.A) (tk : Takes X W) (ha : PE X a (TEof c r W ea)) (hbb : PE X b (TEof c r W eb)) :
    PT X (.Compare a [.NotEq] [b] pos) (TTof c r W (tTst (rDun2 kc F gNot (isIns kc) ea eb))) := ⟨fun pins st σ H Q I h => by
  refine wpAny_isTrue_Compare1 (thn (neOwn_run M hne hob hF hb hr tk ha hbb I (tst_imp h)) fun v s1 h1 => thn h1 fun u s2 h2 => thn h2 fun cv s3 ⟨z, H3, I3, r3, kk, e, q3⟩ => ?_) (nomark _)
  subst e
  cases r3
  exact wpAny_truthy_bool ⟨H3, I3, q3⟩⟩
end
end TreeL
end
section
/-! TL19: small things for printed walks. -/
namespace TreeL
open PySem PySem.Spec PyProof.Rows L2
inductive AllP {α : Type} (p : α → Prop) : List α → Prop where
  | nil : AllP p []
  | cons {x : α} {xs : List α} (h : p x) (r : AllP p xs) : AllP p (x :: xs)
theorem AllP.all {α : Type} {p : α → Prop} : ∀ {xs : List α}, AllP p xs → ∀ x ∈ xs, p x
  | _, .cons h r, x, m => by
    rcases List.mem_cons.mp m with e | e
    · rw [e]; exact h
    · exact r.all x e
theorem tgtAll {c : TC} : ∀ ts : List Tgt, Paired ClsV (ts.map (Tgt.v c)) (ts.map (Tgt.val c))
  | [] => .nil
  | t :: ts => .cons (t.cls c) (tgtAll ts)
theorem capq {X : Cx} {r : Ref} {pn : List Nat} {N : List Str} {sc : Scope} {is : List Nat} {xs : List Str} (hp : r.pins.map Prod.fst = pn) (hN : X.N = N) (hs : X.env.scope = sc)
    (h : ((is.zip xs).all fun q => (decide (N[q.1]? = some q.2) && (match sc.names.lookup q.2 with | some .local => true | _ => false)) && !pn.contains q.1) = true) :
    ∀ q ∈ is.zip xs, X.N[q.1]? = some q.2 ∧ X.env.scope.names.lookup q.2 = some .local ∧ (r.pins.map Prod.fst).contains q.1 = false := fun q hq => by
  obtain ⟨h1, h3⟩ := He.ba (List.all_eq_true.mp h q hq)
  obtain ⟨h1, h2⟩ := He.ba h1
  rw [hN, hs, hp]
  refine ⟨of_decide_eq_true h1, ?_, by simpa using h3⟩
  split at h2
  · rename_i e; exact e
  · cases h2
theorem strsG {xs : List Str} (h : (xs.all fun x => decide (x.length ≤ sizeLine) && PyData.strOk x) = true) : ∀ x ∈ xs, StrG x := fun x hx => strG_by (List.all_eq_true.mp h x hx)
theorem pt_gint {X : Cx} {c : TC} {r : Ref} {W : WX} {x : Str} {z : Int} {p : Pos} (hg : Gl X x) (hm : ∃ t, X.mg x = some (.int z t)) (hd : (x == ("__debug__" : Str)) = false := by decide) : PE X (.Name x p) (TEof c r W (eCon (.int z))) := by
  obtain ⟨t, hm⟩ := hm
  exact pt_con (pe_glob (v := .int z) hg hm ⟨t, rfl⟩ hd) fun G => rep_int G
theorem pe_bltT {X : Cx} {x : Str} {T : String} {p : Pos} (hg : Gl X x) (hm : X.mg x = none) (hv : bootBuiltins x = some (.type T)) (hn : x ≠ "__name__" := by decide) (hd : (x == ("__debug__" : Str)) = false := by decide) : PE X (.Name x p) (tC (.ty T)) := pe_bltn hg hm hv rfl hn hd
theorem repl_nil {c : TC} {G : Hp} : RepL c G [] [] := rfl
theorem repl_cons {c : TC} {G : Hp} {t : PV} {ts : List PV} {v : V} {vs : List V} (h : Rep c G t v) (r : RepL c G ts vs) : RepL c G (t :: ts) (v :: vs) := ⟨v, vs, rfl, h, r⟩
theorem rep_tup0 {c : TC} {G : Hp} {a : Addr} (h : ∀ H, SqT c.K H a []) : Rep c G (.tup []) (.ref a) := by
  simp only [Rep]
  exact ⟨a, [], rfl, h G, rfl⟩
theorem rep_nonC {c : TC} {G : Hp} : Rep c G .non .non := by simp [Rep]
theorem rep_blC {c : TC} {G : Hp} {b : Bool} : Rep c G (.bl b) (.bl b) := by simp [Rep]
theorem rep_intC {c : TC} {G : Hp} {b : Int} : Rep c G (.int b) (.int b) := by simp [Rep]
theorem rep_strC {c : TC} {G : Hp} {x : Str} (h : (decide (x.length ≤ sizeLine) && PyData.strOk x) = true := by decide +kernel) : Rep c G (.str x) (.str x) := by
  simp only [Rep]; exact ⟨trivial, strG_by h⟩
theorem lenT {c : TC} {ts : List Tgt} (h : decide (ts.length ≤ sizeLine) = true) : (ts.map (Tgt.v c)).length ≤ sizeLine := by rw [List.length_map]; exact of_decide_eq_true h
section
variable {X : Cx} {c : TC} {r : Ref} {W : WX} {F : FSem} {el : EvA} {ea : EvE} {n k kc : Nat} {ds : List PV} {f q : Addr} {mc : Value} {fd : FuncData} {ps : List Str} {x m : Str} {p pos apos : Pos} {a o : Expr} {as : List Expr}
theorem tr_cmethP (he : PE X o (tC (.ref (c.C kc)))) (cr : ClX.CRead X.K (c.C kc) mc) (cm : ClX.CMet X.K (c.C kc) mc m q f) (hF : FnG X.prog X.w X.K X.mg X.base k f fd ps (spF c n F)) (hb : Fill c X.K fd ps ds) (hr : RoomG k X.A) (tk : Takes X W) (ha : PA X (a :: as) (TAof c r W el))
    (hst : starEach (a :: as) X.env = (false, eval a X.env) :: starEach as X.env := by rfl) (hpl : (backTo pos (starEach as X.env)).any (·.1) = false := by rfl)
    (ht : eval (.Call (.Attribute o m apos) (a :: as) [] pos) X.env = (do let ov ← eval o X.env; standAt apos.atName; let (g, first) ← holding [ov] (getMethod ov m (plainOf o X.env)); callWith pos g first (backTo pos (starEach (a :: as) X.env)) (backToKw pos (keywordEach [] X.env))) := by rfl) :
    PE X (.Call (.Attribute o m apos) (a :: as) [] pos) (TRof c r W (rCls kc n F ds el)) := tr_cmeth he cr cm hF hb hr tk ha hst hpl ht
theorem tr_methP (he : PE X o (TEof c r W ea)) (cl : Cls X.K (c.C kc)) (hm : Meth X.K (c.C kc) m f) (hF : FnG X.prog X.w X.K X.mg X.base k f fd ps (spF c n F)) (hb : Fill c X.K fd ps ds) (hr : RoomG k X.A) (tk : Takes X W) (ha : PA X (a :: as) (TAof c r W el))
    (hst : starEach (a :: as) X.env = (false, eval a X.env) :: starEach as X.env := by rfl) (hpl : (backTo pos (starEach as X.env)).any (·.1) = false := by rfl)
    (ht : eval (.Call (.Attribute o m apos) (a :: as) [] pos) X.env = (do let ov ← eval o X.env; standAt apos.atName; let (g, first) ← holding [ov] (getMethod ov m (plainOf o X.env)); callWith pos g first (backTo pos (starEach (a :: as) X.env)) (backToKw pos (keywordEach [] X.env))) := by rfl) :
    PE X (.Call (.Attribute o m apos) (a :: as) [] pos) (TRof c r W (rMeth kc m n F ds ea el)) := tr_meth he cl hm hF hb hr tk ha hst hpl ht
theorem tr_methP0 (he : PE X o (TEof c r W ea)) (cl : Cls X.K (c.C kc)) (hm : Meth X.K (c.C kc) m f) (hF : FnG X.prog X.w X.K X.mg X.base k f fd ps (spF c n F)) (hb : Fill c X.K fd ps ds) (hr : RoomG k X.A) (tk : Takes X W)
    (ht : eval (.Call (.Attribute o m apos) [] [] pos) X.env = (do let ov ← eval o X.env; standAt apos.atName; let (g, first) ← holding [ov] (getMethod ov m (plainOf o X.env)); callWith pos g first (backTo pos (starEach [] X.env)) (backToKw pos (keywordEach [] X.env))) := by rfl) :
    PE X (.Call (.Attribute o m apos) [] [] pos) (TRof c r W (rMeth kc m n F ds ea aNil)) := tr_meth0 he cl hm hF hb hr tk ht
end
end TreeL
end
section
/-! TL20: reckoning with the evaluators: simp rules, loops, the box of draws. -/
namespace TreeL
open PySem PySem.Spec PyProof.Rows L2
/-- what a def gives -/
theorem fDef_of {n : Nat} {pn : List Nat} {body : EvS} {args : List Arg} (h : okArgs pn 0 args = true) : fDef n pn body args = (match body (env0 n args) with
  | .nx e => .ret (.t .non) (upArgs args e)
  | .rt a e => .ret a (upArgs args e)
  | .exc x e => .exc x (upArgs args e)
  | _ => .bad) := by unfold fDef; rw [if_pos h]; try (cases body (env0 n args) <;> rfl)
/-! ### loops -/
theorem compL_sat {g : Tg} {et : EvT} {ea : EvE} {vs : List Nat} {al : En → Bool} (I : List PV → En → Prop) (hal : ∀ acc env, I acc env → al env = true) : ∀ (ts acc : List PV) (env : En), acc.length + ts.length ≤ LIM → I acc env →
    (∀ t ∈ ts, ∀ acc env, I acc env → ∃ e1, g t env = some e1 ∧ ∃ b e2, et e1 = .ok b e2 ∧ (if b = true then ∃ x e3, ea e2 = .ok (.tr x) e3 ∧ I (acc ++ [x]) (wipeE e3 vs) else I acc (wipeE e2 vs))) →
    ∃ acc' env', compL g et ea vs al ts acc env = .ok acc' env' ∧ I acc' env'
  | [], acc, env, _, h, _ => ⟨acc, env, by simp [compL, hal _ _ h], h⟩
  | t :: ts, acc, env, hl, h, hs => by
    obtain ⟨e1, q1, b, e2, q2, q3⟩ := hs t List.mem_cons_self acc env h
    rw [List.length_cons] at hl
    cases b with
    | true =>
      obtain ⟨x, e3, q4, q5⟩ := q3
      obtain ⟨acc', env', r1, r2⟩ := compL_sat I hal ts (acc ++ [x]) (wipeE e3 vs) (by rw [List.length_append, List.length_singleton]; omega) q5 fun t ht => hs t (List.mem_cons_of_mem _ ht)
      have hlt : acc.length < LIM := by omega
      exact ⟨acc', env', by rw [← r1]; simp [compL, hal _ _ h, q1, q2, q4, hlt], r2⟩
    | false =>
      obtain ⟨acc', env', r1, r2⟩ := compL_sat I hal ts acc (wipeE e2 vs) (by omega) q3 fun t ht => hs t (List.mem_cons_of_mem _ ht)
      exact ⟨acc', env', by rw [← r1]; simp [compL, hal _ _ h, q1, q2], r2⟩
/-- a map -/
theorem compL_map {g : Tg} {et : EvT} {ea : EvE} {vs : List Nat} {al : En → Bool} {env : En} (f : PV → PV) (hal : al env = true) : ∀ (ts acc : List PV), acc.length + ts.length ≤ LIM →
    (∀ t ∈ ts, ∃ e1, g t env = some e1 ∧ et e1 = .ok true e1 ∧ ∃ e3, ea e1 = .ok (.tr (f t)) e3 ∧ wipeE e3 vs = env) → compL g et ea vs al ts acc env = .ok (acc ++ ts.map f) env
  | [], acc, _, _ => by simp [compL, hal]
  | t :: ts, acc, hl, hs => by
    obtain ⟨e1, q1, q2, e3, q4, q5⟩ := hs t List.mem_cons_self
    rw [List.length_cons] at hl
    have hlt : acc.length < LIM := by omega
    have r := compL_map (acc := acc ++ [f t]) f hal ts (by rw [List.length_append, List.length_singleton]; omega) fun t ht => hs t (List.mem_cons_of_mem _ ht)
    simp [compL, hal, q1, q2, q4, hlt, q5, r]
theorem loopF_sat {g : Tg} {body : EvS} {al : En → Bool} {k : SK} (I : List PV → En → Prop) (hal : ∀ ts env, I ts env → al env = true) (hn : ∀ env, I [] env → k.nx env)
    (hs : ∀ t ts env, I (t :: ts) env → ∃ e1, g t env = some e1 ∧ (body e1).Sat { k with nx := I ts, ct := I ts, bk := k.nx }) : ∀ (ts : List PV) (env : En), I ts env → (loopF g body al ts env).Sat k
  | [], env, h => by simp [loopF, hal _ _ h, SO.Sat, hn _ h]
  | t :: ts, env, h => by
    obtain ⟨e1, q1, q2⟩ := hs t ts env h
    rw [loopF, if_pos (hal _ _ h), q1]
    simp only
    cases q : body e1 with
    | nx e2 => rw [q] at q2; exact loopF_sat I hal hn hs ts e2 q2
    | ct e2 => rw [q] at q2; exact loopF_sat I hal hn hs ts e2 q2
    | bk e2 => rw [q] at q2; exact q2
    | rt t e2 => rw [q] at q2; exact q2
    | exc x e2 => rw [q] at q2; exact q2
    | bad => rw [q] at q2; exact q2
theorem sLoop_sat {et : EvT} {body : EvS} {k : SK} (I : Nat → En → Prop)
    (hs : ∀ m env, I m env → ∃ b e, et env = .ok b e ∧ (if b = true then (body e).Sat { k with nx := fun e' => ∃ m', m' < m ∧ I m' e', ct := fun e' => ∃ m', m' < m ∧ I m' e', bk := k.nx } else k.nx e)) : ∀ (n m : Nat) (env : En), m < n → I m env → (sLoop et body n env).Sat k
  | 0, m, env, h, _ => absurd h (Nat.not_lt_zero _)
  | n + 1, m, env, h, hi => by
    obtain ⟨b, e, q1, q2⟩ := hs m env hi
    rw [sLoop, q1]
    simp only [RE.so]
    cases b with
    | false => exact q2
    | true =>
      rw [if_pos rfl] at q2
      rw [if_pos rfl]
      cases q : body e with
      | nx e2 => rw [q] at q2; obtain ⟨m', l, i⟩ := q2; exact sLoop_sat I hs n m' e2 (by omega) i
      | ct e2 => rw [q] at q2; obtain ⟨m', l, i⟩ := q2; exact sLoop_sat I hs n m' e2 (by omega) i
      | bk e2 => rw [q] at q2; exact q2
      | rt t e2 => rw [q] at q2; exact q2
      | exc x e2 => rw [q] at q2; exact q2
      | bad => rw [q] at q2; exact q2
/-- a statement that goes on -/
theorem sat_nx {s : SO} {P : En → Prop} (h : s.Sat ⟨P, fun _ _ => False, fun _ => False, fun _ => False, fun _ _ => False⟩) : ∃ e, s = .nx e ∧ P e := by
  cases s with
  | nx e => exact ⟨e, rfl, h⟩
  | _ => exact h.elim
/-! ### the box of draws, family A -/
structure Box where
  great : List Int
  now : Int
  mixed : Int
  turn : Int
def Box.os (b : Box) : OS := .boxD b.great [("now", b.now), ("mixed", b.mixed), ("turn", b.turn)]
structure Box.Ok (b : Box) : Prop where
  great : ∀ x ∈ b.great, 0 < x
  len : b.great.length ≤ 100
  now : 0 ≤ b.now
  mixed : 0 ≤ b.mixed ∧ b.mixed ≤ 2 ^ 31
  turn : 0 ≤ b.turn
/-- a box, at most n turns old -/
def IsBox (n : Int) (o : OS) : Prop := ∃ b : Box, o = b.os ∧ b.Ok ∧ b.turn ≤ n
theorem IsBox.mono {n m : Int} {o : OS} (h : IsBox n o) (l : n ≤ m) : IsBox m o := by
  obtain ⟨b, e, k, t⟩ := h
  exact ⟨b, e, k, by omega⟩
theorem log2_lt {n k : Nat} (h : n < 2 ^ k) (hk : 0 < k) : n.log2 < k := by
  by_cases z : n = 0
  · subst z; simpa using hk
  · exact (Nat.log2_lt z).mpr h
theorem mulA_ok {i j : Int} (h1 : i.natAbs < 2 ^ 100000) (h2 : j.natAbs < 2 ^ 100000) : mulA (.int i) (.int j) = some (.t (.int (i * j))) := by
  have a := log2_lt h1 (by decide)
  have b := log2_lt h2 (by decide)
  simp only [mulA]
  rw [if_pos (by omega)]
namespace A
def eb_draw : EvS := (sBput 0 "now" (eBpop 0))
def while_draw : EvS := sLoop (tAn (tBl (eBin eqP (eBget 0 "now") (eCon (.int 0)))) (tBl (eBin gtP (eBlen 0) (eCon (.int 0))))) eb_draw 1000
def if_draw : EvS := (sIf (tBl (eBin gtP (eBget 0 "now") (eCon (.int 0)))) (sSeq (sAsg (eBin modP (eRes (rBui intF (aCons (eBget 0 "now") aNil))) (eVar 1)) (gNm 2))
  (sSeq (sBput 0 "now" (eBin fdivP (eBget 0 "now") (eVar 1)))
  (sRet [0, 1] (eVar 2)))) sSkip)
def rest_draw : EvS := (sSeq (sBput 0 "turn" (eRes (rBin addA (eBget 0 "turn") (eCon (.int 1)))))
  (sSeq (sAsg (eBin modP (eRes (rBui intF (aCons (eRes (rBin addA (eRes (rBin mulA (eBget 0 "mixed") (eCon (.int 48271)))) (eRes (rBin mulA (eBget 0 "turn") (eCon (.int 69621)))))) aNil))) (eCon (.int 2147483629))) (gNm 3))
  (sSeq (sAsg (eBin modP (eRes (rBui intF (aCons (eRes (rBin addA (eRes (rBin mulA (eVar 3) (eVar 3))) (eRes (rBin mulA (eBget 0 "turn") (eCon (.int 7919)))))) aNil))) (eCon (.int 2147483563))) (gNm 4))
  (sSeq (sBput 0 "mixed" (eRes (rBin addA (eBin modP (eRes (rBui intF (aCons (eRes (rBin addA (eRes (rBin mulA (eVar 4) (eCon (.int 40692)))) (eVar 3))) aNil))) (eCon (.int 2147483647))) (eCon (.int 1)))))
  (sRet [0, 1] (eBin modP (eRes (rBui intF (aCons (eRes (rBin addA (eBin fdivP (eVar 4) (eCon (.int 4096))) (eVar 3))) aNil))) (eVar 1)))))))
def ev_draw : EvS := sSeq while_draw (sSeq if_draw rest_draw)
def F_draw : FSem := fDef 5 [0, 1] ev_draw
theorem d1 : ((Str.ofString "now") = GREAT) = False := by simp only [eq_iff_iff, iff_false]; decide +kernel
theorem d2 : ((Str.ofString "mixed") = GREAT) = False := by simp only [eq_iff_iff, iff_false]; decide +kernel
theorem d3 : ((Str.ofString "turn") = GREAT) = False := by simp only [eq_iff_iff, iff_false]; decide +kernel
theorem b1 : ((Str.ofString "mixed") == (Str.ofString "now")) = false := by decide +kernel
theorem b2 : ((Str.ofString "turn") == (Str.ofString "now")) = false := by decide +kernel
theorem b3 : ((Str.ofString "turn") == (Str.ofString "mixed")) = false := by decide +kernel
theorem e1 : ((Str.ofString "now") = (Str.ofString "mixed")) = False := by simp only [eq_iff_iff, iff_false]; decide +kernel
theorem e2 : ((Str.ofString "now") = (Str.ofString "turn")) = False := by simp only [eq_iff_iff, iff_false]; decide +kernel
theorem e3 : ((Str.ofString "mixed") = (Str.ofString "turn")) = False := by simp only [eq_iff_iff, iff_false]; decide +kernel
theorem e4 : ((Str.ofString "mixed") = (Str.ofString "now")) = False := by simp only [eq_iff_iff, iff_false]; decide +kernel
theorem e5 : ((Str.ofString "turn") = (Str.ofString "now")) = False := by simp only [eq_iff_iff, iff_false]; decide +kernel
theorem e6 : ((Str.ofString "turn") = (Str.ofString "mixed")) = False := by simp only [eq_iff_iff, iff_false]; decide +kernel
@[simp] theorem bget_now (b : Box) (r : En) : eBget 0 "now" (some (.ow b.os) :: r) = .ok (.tr (.int b.now)) (some (.ow b.os) :: r) := by
  simp [eBget, Box.os, d1]
@[simp] theorem bget_mixed (b : Box) (r : En) : eBget 0 "mixed" (some (.ow b.os) :: r) = .ok (.tr (.int b.mixed)) (some (.ow b.os) :: r) := by
  simp [eBget, Box.os, d2, List.lookup, b1]
@[simp] theorem bget_turn (b : Box) (r : En) : eBget 0 "turn" (some (.ow b.os) :: r) = .ok (.tr (.int b.turn)) (some (.ow b.os) :: r) := by
  simp [eBget, Box.os, d3, List.lookup, b2, b3]
@[simp] theorem blen_os (b : Box) (r : En) : eBlen 0 (some (.ow b.os) :: r) = .ok (.tr (.int b.great.length)) (some (.ow b.os) :: r) := rfl
theorem bpop_os (b : Box) (r : En) (x : Int) (h : b.great[b.great.length - 1]? = some x) : eBpop 0 (some (.ow b.os) :: r) = .ok (.tr (.int x)) (some (.ow { b with great := b.great.dropLast }.os) :: r) := by
  simp [eBpop, Box.os, h]
@[simp] theorem bput_now {ea : EvE} {env : En} {b : Box} {r : En} {n : Int} (h : ea env = .ok (.tr (.int n)) (some (.ow b.os) :: r)) : sBput 0 "now" ea env = .nx (some (.ow { b with now := n }.os) :: r) := by
  simp [sBput, h, Box.os, d1, updI, e4, e5]
@[simp] theorem bput_mixed {ea : EvE} {env : En} {b : Box} {r : En} {n : Int} (h : ea env = .ok (.tr (.int n)) (some (.ow b.os) :: r)) : sBput 0 "mixed" ea env = .nx (some (.ow { b with mixed := n }.os) :: r) := by
  simp [sBput, h, Box.os, d2, updI, e1, e6, List.lookup, b1]
@[simp] theorem bput_turn {ea : EvE} {env : En} {b : Box} {r : En} {n : Int} (h : ea env = .ok (.tr (.int n)) (some (.ow b.os) :: r)) : sBput 0 "turn" ea env = .nx (some (.ow { b with turn := n }.os) :: r) := by
  simp [sBput, h, Box.os, d3, updI, e2, e3, List.lookup, b2, b3]
theorem while_ok (r : En) : ∀ (k : Nat) (b : Box), b.great.length < k → b.Ok → ∃ b' : Box, sLoop (tAn (tBl (eBin eqP (eBget 0 "now") (eCon (.int 0)))) (tBl (eBin gtP (eBlen 0) (eCon (.int 0))))) eb_draw k (some (.ow b.os) :: r) = .nx (some (.ow b'.os) :: r) ∧ b'.Ok ∧ b'.turn = b.turn ∧ b'.mixed = b.mixed
  | 0, b, h, _ => absurd h (Nat.not_lt_zero _)
  | k + 1, b, h, ok => by
    simp only [sLoop]
    by_cases hn : b.now = 0
    · by_cases hg : b.great = []
      · refine ⟨b, ?_, ok, rfl, rfl⟩
        simp [eqP, dat, peq, hn, hg]
      · have hl : 0 < b.great.length := List.length_pos_iff.mpr hg
        obtain ⟨x, hx⟩ : ∃ x, b.great[b.great.length - 1]? = some x := ⟨b.great[b.great.length - 1], List.getElem?_eq_getElem (by omega)⟩
        have mx : x ∈ b.great := List.mem_of_getElem? hx
        have ok2 : ({ b with great := b.great.dropLast, now := x } : Box).Ok := ⟨fun y hy => ok.great y ((List.dropLast_sublist _).subset hy), by have := ok.len; simp; omega, Int.le_of_lt (ok.great x mx), ok.mixed, ok.turn⟩
        obtain ⟨b', q1, q2, q3, q4⟩ := while_ok r k { b with great := b.great.dropLast, now := x } (by simp; omega) ok2
        refine ⟨b', ?_, q2, q3, q4⟩
        rw [← q1]
        have pz := bput_now (ea := eBpop 0) (bpop_os b r x hx)
        simp [eqP, dat, peq, hn, hl, eb_draw, pz]
    · refine ⟨b, ?_, ok, rfl, rfl⟩
      simp [eqP, dat, peq, hn]
theorem abs_lt {i : Int} {k : Nat} (h0 : 0 ≤ i) (h1 : i < (k : Int)) : i.natAbs < k := by omega
theorem big {k : Nat} (h : k ≤ 2 ^ 64) : k ≤ 2 ^ 100000 := Nat.le_trans h (Nat.pow_le_pow_right (by decide) (by decide))
theorem mul_ok {i j : Int} (h0 : 0 ≤ i) (h1 : i < 2 ^ 64) (h2 : 0 ≤ j) (h3 : j < 2 ^ 64) : mulA (.int i) (.int j) = some (.t (.int (i * j))) :=
  mulA_ok (Nat.lt_of_lt_of_le (abs_lt (k := 2 ^ 64) h0 (by simpa using h1)) (big (Nat.le_refl _))) (Nat.lt_of_lt_of_le (abs_lt (k := 2 ^ 64) h2 (by simpa using h3)) (big (Nat.le_refl _)))
theorem draw_spec {n : Int} {o : OS} {m : Int} (h : IsBox n o) (hn : n ≤ 2 ^ 40) (h0 : 0 < m) (hm : m < 2 ^ 40) : ∃ (r : Int) (o' : OS), F_draw [.ow o, .t (.int m)] = .ret (.t (.int r)) [.ow o', .t (.int m)] ∧ 0 ≤ r ∧ r < m ∧ IsBox (n + 1) o' := by
  obtain ⟨b, rfl, ok, ht⟩ := h
  obtain ⟨b1, w1, ok1, t1, m1⟩ := while_ok [some (.t (.int m)), none, none, none] 1000 b (by have := ok.len; omega) ok
  have lm : m.natAbs.log2 < 9000 := Nat.lt_of_lt_of_le (log2_lt (k := 40) (by omega) (by decide)) (by decide)
  by_cases hp : 0 < b1.now
  · refine ⟨b1.now % m, ({ b1 with now := b1.now / m } : Box).os, ?_, Int.emod_nonneg _ (by omega), Int.emod_lt_of_pos _ h0, _, rfl, ⟨ok1.great, ok1.len, Int.ediv_nonneg ok1.now (by omega), ok1.mixed, ok1.turn⟩, by show b1.turn ≤ _; omega⟩
    simp only [F_draw, fDef, ev_draw, while_draw, sSeq, okArgs, env0]
    have p1 : sBput 0 "now" (eBin fdivP (eBget 0 "now") (eVar 1)) [some (.ow b1.os), some (.t (.int m)), some (.t (.int (b1.now % m))), none, none] = .nx [some (.ow ({ b1 with now := b1.now / m } : Box).os), some (.t (.int m)), some (.t (.int (b1.now % m))), none, none] := bput_now (by simp [h0, lm])
    simp [w1, if_draw, intF, hp, h0, p1]
  · have hz : b1.now = 0 := by have := ok1.now; omega
    have ht2 : b1.turn + 1 ≤ 2 ^ 40 + 1 := by omega
    have t0 : 0 ≤ b1.turn := ok1.turn
    have p0 := mul_ok (i := b1.mixed) (j := 48271) ok1.mixed.1 (by have := ok1.mixed.2; omega) (by decide) (by decide)
    have p1 := mul_ok (i := b1.turn + 1) (j := 69621) (by omega) (by omega) (by decide) (by decide)
    obtain ⟨a1, ha1⟩ : ∃ a, a = (b1.mixed * 48271 + (b1.turn + 1) * 69621) % 2147483629 := ⟨_, rfl⟩
    have ra : 0 ≤ a1 ∧ a1 < 2147483629 := by rw [ha1]; exact ⟨Int.emod_nonneg _ (by decide), Int.emod_lt_of_pos _ (by decide)⟩
    have p2 := mul_ok (i := a1) (j := a1) ra.1 (by omega) ra.1 (by omega)
    have p3 := mul_ok (i := b1.turn + 1) (j := 7919) (by omega) (by omega) (by decide) (by decide)
    obtain ⟨a2, ha2⟩ : ∃ a, a = (a1 * a1 + (b1.turn + 1) * 7919) % 2147483563 := ⟨_, rfl⟩
    have rb : 0 ≤ a2 ∧ a2 < 2147483563 := by rw [ha2]; exact ⟨Int.emod_nonneg _ (by decide), Int.emod_lt_of_pos _ (by decide)⟩
    have p4 := mul_ok (i := a2) (j := 40692) rb.1 (by omega) (by decide) (by decide)
    obtain ⟨a3, ha3⟩ : ∃ a, a = (a2 * 40692 + a1) % 2147483647 + 1 := ⟨_, rfl⟩
    have rc : 0 ≤ a3 ∧ a3 ≤ 2 ^ 31 := by
      have x1 := Int.emod_nonneg (a2 * 40692 + a1) (b := 2147483647) (by decide)
      have x2 := Int.emod_lt_of_pos (a2 * 40692 + a1) (b := 2147483647) (by decide)
      omega
    have l4 : Nat.log2 4096 < 9000 := by decide +kernel
    refine ⟨(a2 / 4096 + a1) % m, ({ b1 with turn := b1.turn + 1, mixed := a3 } : Box).os, ?_, Int.emod_nonneg _ (by omega), Int.emod_lt_of_pos _ h0, _, rfl, ⟨ok1.great, ok1.len, ok1.now, rc, by show 0 ≤ b1.turn + 1; omega⟩, by show b1.turn + 1 ≤ _; omega⟩
    simp only [F_draw, fDef, ev_draw, while_draw, sSeq, okArgs, env0]
    have q1 : sBput 0 "turn" (eRes (rBin addA (eBget 0 "turn") (eCon (.int 1)))) [some (.ow b1.os), some (.t (.int m)), none, none, none] = .nx [some (.ow ({ b1 with turn := b1.turn + 1 } : Box).os), some (.t (.int m)), none, none, none] := bput_turn (by simp [addA])
    have q2 : sBput 0 "mixed" (eRes (rBin addA (eBin modP (eRes (rBui intF (aCons (eRes (rBin addA (eRes (rBin mulA (eVar 4) (eCon (.int 40692)))) (eVar 3))) aNil))) (eCon (.int 2147483647))) (eCon (.int 1)))) [some (.ow ({ b1 with turn := b1.turn + 1 } : Box).os), some (.t (.int m)), none, some (.t (.int a1)), some (.t (.int a2))] =
      .nx [some (.ow ({ b1 with turn := b1.turn + 1, mixed := a3 } : Box).os), some (.t (.int m)), none, some (.t (.int a1)), some (.t (.int a2))] := bput_mixed (b := { b1 with turn := b1.turn + 1 }) (by simp [addA, p4, intF, ha3])
    simp [w1, if_draw, intF, hp, rest_draw, q1, addA, p0, p1, ← ha1, p2, p3, ← ha2, q2, l4, h0]
end A
end TreeL
end
section
/-! TL21: the deal, mixing, picking (family A). -/
namespace TreeL
open PySem PySem.Spec PyProof.Rows L2
/-- a filter and map -/
theorem compL_fil {g : Tg} {et : EvT} {ea : EvE} {vs : List Nat} {al : En → Bool} {env : En} (p : PV → Bool) (f : PV → PV) (hal : al env = true) : ∀ (ts acc : List PV), acc.length + ts.length ≤ LIM →
    (∀ t ∈ ts, ∃ e1 e2, g t env = some e1 ∧ et e1 = .ok (p t) e2 ∧ (if p t = true then ∃ e3, ea e2 = .ok (.tr (f t)) e3 ∧ wipeE e3 vs = env else wipeE e2 vs = env)) → compL g et ea vs al ts acc env = .ok (acc ++ (ts.filter p).map f) env
  | [], acc, _, _ => by simp [compL, hal]
  | t :: ts, acc, hl, hs => by
    obtain ⟨e1, e2, q1, q2, q3⟩ := hs t List.mem_cons_self
    rw [List.length_cons] at hl
    have hlt : acc.length < LIM := by omega
    cases hp : p t with
    | true =>
      rw [hp, if_pos rfl] at q3
      obtain ⟨e3, q4, q5⟩ := q3
      have r := compL_fil (acc := acc ++ [f t]) p f hal ts (by rw [List.length_append, List.length_singleton]; omega) fun t ht => hs t (List.mem_cons_of_mem _ ht)
      simp [compL, hal, q1, q2, hp, q4, hlt, q5, r]
    | false =>
      rw [hp, if_neg Bool.false_ne_true] at q3
      have r := compL_fil (acc := acc) p f hal ts (by omega) fun t ht => hs t (List.mem_cons_of_mem _ ht)
      simp [compL, hal, q1, q2, hp, q3, r]
theorem comp1 {et : EvT} {ea : EvE} {al : En → Bool} {env : En} {j : Nat} (p : PV → Bool) (f : PV → PV) (hal : al env = true) (hj : env[j]? = some none) (ts : List PV) (hl : ts.length ≤ LIM)
    (hs : ∀ t ∈ ts, et (env.set j (some (.t t))) = .ok (p t) (env.set j (some (.t t))) ∧ (p t = true → ea (env.set j (some (.t t))) = .ok (.tr (f t)) (env.set j (some (.t t))))) : compL (gNm j) et ea [j] al ts [] env = .ok ((ts.filter p).map f) env := by
  have hw : ∀ x, wipeE (env.set j x) [j] = env := fun x => by
    simp only [wipeE]
    rw [List.set_set]
    apply List.ext_getElem?
    intro k
    rw [List.getElem?_set]
    by_cases e : j = k
    · subst e
      have := (List.getElem?_eq_some_iff.mp hj).1
      rw [if_pos rfl, if_pos this, hj]
    · rw [if_neg e]
  have q := compL_fil (g := gNm j) (et := et) (ea := ea) (vs := [j]) (al := al) (env := env) p f hal ts [] (by simpa using hl) (fun t ht => ⟨_, _, rfl, (hs t ht).1, ?_⟩)
  · rw [q]; simp
  · cases h : p t with
    | true => exact ⟨_, (hs t ht).2 h, hw _⟩
    | false => exact hw _
theorem compM {ea : EvE} {al : En → Bool} {env : En} {j : Nat} (f : PV → PV) (hal : al env = true) (hj : env[j]? = some none) (ts : List PV) (hl : ts.length ≤ LIM)
    (hs : ∀ t ∈ ts, ea (env.set j (some (.t t))) = .ok (.tr (f t)) (env.set j (some (.t t)))) : compL (gNm j) tYesT ea [j] al ts [] env = .ok (ts.map f) env := by
  have q := comp1 (et := tYesT) (ea := ea) (al := al) (fun _ => true) f hal hj ts hl fun t ht => ⟨rfl, fun _ => hs t ht⟩
  rw [q, List.filter_eq_self.mpr (fun _ _ => rfl)]
theorem cutP_map {α : Type} (f : α → PV) (xs : List α) (lo hi : Option Int) : cutP (xs.map f) lo hi = ((xs.drop (HT.sIx xs.length 0 lo)).take (HT.sIx xs.length xs.length hi - HT.sIx xs.length 0 lo)).map f := by
  unfold cutP
  rw [List.length_map, List.map_take, List.map_drop]
theorem intsP_map (xs : List Int) : intsP (xs.map PV.int) = some xs := by
  induction xs with
  | nil => rfl
  | cons x r ih => simp [intsP, ih]
theorem intsP_rev (xs : List Int) : intsP (xs.map PV.int).reverse = some xs.reverse := by rw [← List.map_reverse]; exact intsP_map _
namespace A
def eb_deal : EvS := (sAsg (eBin modP (eRes (rBui intF (aCons (eRes (rBin addA (eRes (rBin mulA (eVar 4) (eCon (.int 16807)))) (eVar 3))) aNil))) (eCon (.int 2147483647))) (gNm 4))
def ev_deal : EvS := (sSeq (sAsg (eOf (fComp (iAny [0, 1] (eRes (rSl (eVar 0) (oSo (eVar 1)) (oSo (eCon (.int 63)))))) (gNm 3) tYesT (eRes (rBui absF (aCons (eVar 3) aNil))) [3])) (gNm 2))
  (sSeq (sAsg (eRes (rBin addA (eCon (.int 15485863)) (eVar 1))) (gNm 4))
  (sSeq (sFor (iAny [0, 1] (eVar 2)) (gNm 3) eb_deal)
  (sSeq (sAsg (eOf (fComp (iAny [0, 1] (eVar 2)) (gNm 3) (tBl (eBin geP (eVar 3) (eBin powP (eCon (.int 10)) (eCon (.int 18))))) (eVar 3) [3])) (gNm 5))
  (sRetF (fBox (fRes (rRev (eVar 5))) [("now", (eCon (.int 0))), ("mixed", (eRes (rBin addA (eVar 4) (eCon (.int 1))))), ("turn", (eCon (.int 0)))]))))))
def F_deal : FSem := fDef 6 [0, 1] ev_deal
def absI (i : Int) : Int := if i < 0 then -i else i
theorem deal_spec (ns : List Int) (base : Int) (hb : 0 ≤ base ∧ base < 1000) (hl : ns.length ≤ 63) : ∃ o, F_deal [.t (.scr ns), .t (.int base)] = .ret (.ow o) [.t (.scr ns), .t (.int base)] ∧ IsBox 0 o := by
  obtain ⟨cs, hcs⟩ : ∃ cs, cs = (ns.drop (HT.sIx ns.length 0 (some base))).take (HT.sIx ns.length ns.length (some 63) - HT.sIx ns.length 0 (some base)) := ⟨_, rfl⟩
  have lcs : cs.length ≤ 63 := by rw [hcs, List.length_take, List.length_drop]; omega
  have hcut : cutP (ns.map PV.int) (some base) (some 63) = cs.map PV.int := by rw [cutP_map, hcs]
  -- the cells
  have c1 : compL (gNm 3) tYesT (eRes (rBui absF (aCons (eVar 3) aNil))) [3] (alive (.tr .non) (cs.map PV.int)) (cs.map PV.int) [] [some (.t (.scr ns)), some (.t (.int base)), none, none, none, none] =
      .ok ((cs.map absI).map PV.int) [some (.t (.scr ns)), some (.t (.int base)), none, none, none, none] := by
    refine (compM (f := fun t => match t with | .int i => .int (absI i) | t => t) rfl rfl _ (by simp; unfold LIM; omega) (fun t ht => ?_)).trans ?_
    rotate_left
    · simp [List.map_map, Function.comp_def]
    · obtain ⟨i, _, rfl⟩ := List.mem_map.mp ht
      simp [absF, absI]
  obtain ⟨ds, hds⟩ : ∃ ds, ds = cs.map absI := ⟨_, rfl⟩
  rw [← hds] at c1
  have lds : ds.length ≤ 63 := by rw [hds, List.length_map]; exact lcs
  have nds : ∀ d ∈ ds, 0 ≤ d := fun d hd => by
    rw [hds] at hd
    obtain ⟨i, _, rfl⟩ := List.mem_map.mp hd
    unfold absI; split <;> omega
  have c2 : ∀ m : Int, compL (gNm 3) (tBl (eBin geP (eVar 3) (eBin powP (eCon (.int 10)) (eCon (.int 18))))) (eVar 3) [3] (alive (.tr .non) (ds.map PV.int)) (ds.map PV.int) [] [some (.t (.scr ns)), some (.t (.int base)), some (.t (.lst (ds.map .int))), none, some (.t (.int m)), none] =
      .ok ((ds.filter fun d => decide (10 ^ 18 ≤ d)).map PV.int) [some (.t (.scr ns)), some (.t (.int base)), some (.t (.lst (ds.map .int))), none, some (.t (.int m)), none] := fun m => by
    refine (comp1 (p := fun t => match t with | .int i => decide (10 ^ 18 ≤ i) | _ => false) (f := id) rfl rfl _ (by simp; unfold LIM; omega) (fun t ht => ?_)).trans ?_
    rotate_left
    · simp [List.filter_map, Function.comp_def]
    · obtain ⟨i, _, rfl⟩ := List.mem_map.mp ht
      simp [powP]
  -- the loop
  have lp : ∃ e, sFor (iAny [0, 1] (eVar 2)) (gNm 3) eb_deal [some (.t (.scr ns)), some (.t (.int base)), some (.t (.lst (ds.map .int))), none, some (.t (.int (15485863 + base))), none] = .nx e ∧
      ∃ x m, e = [some (.t (.scr ns)), some (.t (.int base)), some (.t (.lst (ds.map .int))), x, some (.t (.int m)), none] ∧ (x = none ∨ ∃ t, x = some (.t t)) ∧ 0 ≤ m ∧ m < 2 ^ 31 := by
    refine sat_nx ?_
    simp only [sFor, iAny, iSeq, eVar, RE.bind, RE.so, List.getElem?_cons_succ, List.getElem?_cons_zero]
    refine loopF_sat (fun ts e => (∀ t ∈ ts, t ∈ ds.map PV.int) ∧ ∃ x m, e = [some (.t (.scr ns)), some (.t (.int base)), some (.t (.lst (ds.map .int))), x, some (.t (.int m)), none] ∧ (x = none ∨ ∃ t, x = some (.t t)) ∧ 0 ≤ m ∧ m < 2 ^ 31) (fun _ _ _ => rfl) (fun _ h => h.2) ?_ _ _ ⟨fun _ h => h, _, _, rfl, .inl rfl, by omega, by omega⟩
    rintro t ts env ⟨h1, x, m, rfl, _, h2, h3⟩
    obtain ⟨i, hi, rfl⟩ := List.mem_map.mp (h1 t List.mem_cons_self)
    refine ⟨_, rfl, ?_⟩
    have p0 := mul_ok (i := m) (j := 16807) h2 (by omega) (by decide) (by decide)
    simp [eb_deal, addA, intF, p0, SO.Sat]
    refine ⟨fun t ht => by simpa using h1 t (List.mem_cons_of_mem _ ht), _, _, ⟨rfl, rfl⟩, .inr ⟨_, rfl⟩, Int.emod_nonneg _ (by decide), ?_⟩
    have := Int.emod_lt_of_pos (m * 16807 + i) (b := 2147483647) (by decide)
    omega
  obtain ⟨e, lp1, x, m, rfl, hx, m0, m1⟩ := lp
  refine ⟨(⟨(ds.filter fun d => decide (10 ^ 18 ≤ d)).reverse, 0, m + 1, 0⟩ : Box).os, ?_, _, rfl, ⟨fun y hy => ?_, ?_, Int.le_refl 0, by show 0 ≤ m + 1 ∧ m + 1 ≤ _; omega, Int.le_refl 0⟩, Int.le_refl 0⟩
  · simp only [F_deal, fDef, ev_deal, sSeq, okArgs, env0]
    rcases hx with rfl | ⟨t, rfl⟩ <;> simp [hcut, c1, slA, addA, lp1, c2, fBox, intsP_rev, bPairs, Box.os]
  · have := (List.mem_filter.mp (List.mem_reverse.mp hy)).2
    have := of_decide_eq_true this
    omega
  · show (List.reverse _).length ≤ 100
    rw [List.length_reverse]
    have := List.length_filter_le (fun d => decide ((10 : Int) ^ 18 ≤ d)) ds
    omega
end A
end TreeL
end
section
/-! TL22: picking, mixing (family A). -/
namespace TreeL
open PySem PySem.Spec PyProof.Rows L2
theorem atI_in {α : Type} {xs : List α} {r : Int} (h0 : 0 ≤ r) (h1 : r < xs.length) : ∃ x, atI xs r = some x ∧ x ∈ xs := by
  have hl : r.toNat < xs.length := by omega
  refine ⟨xs[r.toNat], ?_, List.getElem_mem hl⟩
  have e : r = (r.toNat : Int) := by omega
  exact (congrArg (atI xs) e).trans (atI_nat (List.getElem?_eq_getElem hl))
theorem erase_perm {α : Type} : ∀ (xs : List α) (i : Nat) (h : i < xs.length), (xs[i] :: xs.eraseIdx i).Perm xs
  | [], i, h => absurd h (Nat.not_lt_zero _)
  | x :: xs, 0, _ => by simp
  | x :: xs, i + 1, h => by
    have hi : i < xs.length := by simpa using h
    have := erase_perm xs i hi
    simp only [List.getElem_cons_succ, List.eraseIdx_cons_succ]
    exact (List.Perm.swap _ _ _).trans (this.cons x)
theorem rangeL_len {lo : Int} {n : Nat} : (rangeL lo n).length = n := by simp [rangeL]
/-- elements drawn one by one; k counts -/
theorem compS {ea : EvE} {al : En → Bool} {j : Nat} (K : Nat) (I : Nat → En → Prop) (P : PV → Prop) (hal : ∀ k env, I k env → al env = true) : ∀ (ts acc : List PV) (k : Nat) (env : En), acc.length + ts.length ≤ LIM → k + ts.length ≤ K → I k env →
    (∀ t ∈ ts, ∀ k env, k < K → I k env → ∃ x e3, ea (env.set j (some (.t t))) = .ok (.tr x) e3 ∧ P x ∧ I (k + 1) (e3.set j none)) →
    ∃ xs env', compL (gNm j) tYesT ea [j] al ts acc env = .ok (acc ++ xs) env' ∧ xs.length = ts.length ∧ (∀ x ∈ xs, P x) ∧ I (k + ts.length) env'
  | [], acc, k, env, _, _, h, _ => ⟨[], env, by simp [compL, hal _ _ h], rfl, by simp, h⟩
  | t :: ts, acc, k, env, hl, hK, h, hs => by
    rw [List.length_cons] at hl hK
    obtain ⟨x, e3, q1, q2, q3⟩ := hs t List.mem_cons_self k env (by omega) h
    have hlt : acc.length < LIM := by omega
    obtain ⟨xs, env', r1, r2, r3, r4⟩ := compS K I P hal ts (acc ++ [x]) (k + 1) (e3.set j none) (by rw [List.length_append, List.length_singleton]; omega) (by omega) q3 fun t ht => hs t (List.mem_cons_of_mem _ ht)
    refine ⟨x :: xs, env', ?_, by simp [r2], fun y hy => ?_, ?_⟩
    · simp only [compL, hal _ _ h, gNm, tYesT, q1, hlt, wipeE, if_true]
      rw [r1, List.append_assoc]
      rfl
    · rcases List.mem_cons.mp hy with z | z
      · rw [z]; exact q2
      · exact r3 y z
    · rw [List.length_cons]
      have : k + (ts.length + 1) = k + 1 + ts.length := by omega
      rw [this]; exact r4
namespace A
def ev_pick : EvS := (sRet [0, 1] (eBin ixP (eVar 1) (eRes (rCall 2 F_draw [] (aCons (eVar 0) (aCons (eRes (rBui lenF (aCons (eVar 1) aNil))) aNil))))))
def F_pick : FSem := fDef 2 [0, 1] ev_pick
theorem pick_spec {n : Int} {o : OS} {xs : List PV} (h : IsBox n o) (hn : n ≤ 2 ^ 40) (h0 : 0 < xs.length) (hm : xs.length < 2 ^ 40) : ∃ x o', F_pick [.ow o, .t (.lst xs)] = .ret (.t x) [.ow o', .t (.lst xs)] ∧ x ∈ xs ∧ IsBox (n + 1) o' := by
  obtain ⟨r, o', q, r0, r1, hb⟩ := draw_spec (m := xs.length) h hn (by omega) (by omega)
  obtain ⟨x, qx, hx⟩ := atI_in r0 r1
  refine ⟨x, o', ?_, hx, hb⟩
  simp [F_pick, fDef, ev_pick, lenF, q, ixP, qx]
def eb_mixed : EvS := (sEx (eMut "list" appendO 3 (aCons (eMut "list" popO 2 (aCons (eRes (rCall 2 F_draw [] (aCons (eVar 0) (aCons (eRes (rBui lenF (aCons (eVar 2) aNil))) aNil)))) aNil)) aNil)))
def ev_mixed : EvS := (sSeq (sPar 2 3 (bCons (rOwn (fRes (rBui listF (aCons (eVar 1) aNil)))) (bCons (rOwn (fLst aNil)) bNil)))
  (sSeq (sLoop (tBl (eBin neP (eVar 2) (eLst aNil))) eb_mixed 1000)
  (sRet [0, 1] (eVar 3))))
def F_mixed : FSem := fDef 4 [0, 1] ev_mixed
theorem mixed_spec {n : Int} {o : OS} {xs : List PV} (h : IsBox n o) (hn : n + xs.length ≤ 2 ^ 40) (hm : xs.length < 1000) (hd : ∀ x ∈ xs, dat 63 x = true) :
    ∃ ys o', F_mixed [.ow o, .t (.lst xs)] = .ret (.ow (.lst ys)) [.ow o', .t (.lst xs)] ∧ ys.Perm xs ∧ IsBox (n + xs.length) o' := by
  have lp : ∃ e, sLoop (tBl (eBin neP (eVar 2) (eLst aNil))) eb_mixed 1000 [some (.ow o), some (.t (.lst xs)), some (.ow (.lst xs)), some (.ow (.lst []))] = .nx e ∧
      ∃ o' ys, e = [some (.ow o'), some (.t (.lst xs)), some (.ow (.lst [])), some (.ow (.lst ys))] ∧ ys.Perm xs ∧ IsBox (n + xs.length) o' := by
    refine sat_nx ?_
    refine sLoop_sat (fun m e => ∃ o' ls ys, e = [some (.ow o'), some (.t (.lst xs)), some (.ow (.lst ls)), some (.ow (.lst ys))] ∧ (ys ++ ls).Perm xs ∧ m = ls.length ∧ IsBox (n + ys.length) o') ?_ 1000 xs.length _ hm ⟨o, xs, [], rfl, by simp, rfl, by simpa using h⟩
    rintro m env ⟨o', ls, ys, rfl, hp, rfl, hb⟩
    have hdl : datL 63 ls = true := by
      rw [datL_all, List.all_eq_true]
      exact fun x hx => hd x (hp.subset (List.mem_append_right _ hx))
    have hlen := hp.length_eq
    rw [List.length_append] at hlen
    cases ls with
    | nil =>
      refine ⟨false, _, by simp [neP, dat, datL, peq, peqL]; rfl, ?_⟩
      simp at hp hlen
      exact ⟨o', ys, rfl, hp, by rw [← hlen]; exact hb⟩
    | cons l ls =>
      have hd1 : dat 63 l = true := hd l (hp.subset (List.mem_append_right _ List.mem_cons_self))
      have hd2 : datL 63 ls = true := by rw [datL_all, List.all_eq_true] at hdl ⊢; exact fun x hx => hdl x (List.mem_cons_of_mem _ hx)
      refine ⟨true, _, by simp [neP, dat, hd1, hd2, datL, peq, peqL]; rfl, ?_⟩
      rw [if_pos rfl]
      rw [List.length_cons] at hlen
      obtain ⟨r, o2, q, r0, r1, hb2⟩ := draw_spec (m := (l :: ls).length) hb (by omega) (by simp only [List.length_cons]; omega) (by simp only [List.length_cons]; omega)
      have hr : r.toNat < (l :: ls).length := by omega
      have hsi : seqIndex? r (ls.length + 1) = some r.toNat := by
        rw [List.length_cons] at r1
        have h1 : ¬ r < 0 := by omega
        simp only [seqIndex?, if_neg h1]
        have h2 : r < (((ls.length + 1 : Nat)) : Int) := r1
        have h3 : r < (ls.length : Int) + 1 := by omega
        simp [r0, h3]
      have hx : (l :: ls)[r.toNat]? = some (l :: ls)[r.toNat] := List.getElem?_eq_getElem hr
      have hbd : -9223372036854775808 ≤ r ∧ r < 9223372036854775808 := by rw [List.length_cons] at r1; omega
      have hyl : ys.length < LIM := by unfold LIM; omega
      have q' : F_draw [.ow o', .t (.int ((ls.length : Int) + 1))] = .ret (.t (.int r)) [.ow o2, .t (.int ((ls.length : Int) + 1))] := by simpa using q
      simp [eb_mixed, eMut, isTyO, lenF, q', popO, hbd, hsi, hx, appendO, hyl, SO.Sat]
      have pe : ((l :: ls)[r.toNat] :: (l :: ls).eraseIdx r.toNat).Perm (l :: ls) := erase_perm _ _ hr
      have le : ((l :: ls).eraseIdx r.toNat).length = ls.length := by rw [List.length_eraseIdx, if_pos hr]; simp
      refine ⟨_, ?_, _, _, _, ⟨rfl, rfl, rfl⟩, ?_, rfl, ?_⟩
      · rw [le]; omega
      · rw [List.append_assoc]
        exact (List.Perm.append_left ys pe).trans hp
      · rw [List.length_append, List.length_singleton]
        have : n + ((ys.length + 1 : Nat) : Int) = n + ys.length + 1 := by omega
        rw [this]; exact hb2
  obtain ⟨e, lp1, o', ys, rfl, hp, hb⟩ := lp
  refine ⟨ys, o', ?_, hp, hb⟩
  simp [F_mixed, fDef, ev_mixed, listF, lp1]
end A
end TreeL
end
section
/-! TL23: own exceptions are made: super().__init__(p); self.f = p. -/
namespace TreeX
open PySem PySem.Spec PySem.W PySem.Calls PyProof.Rows Builtin Builtin.ObjectAttr
/-- the shape of such an __init__: self, the parameter, the field -/
def shapeOf : List Stmt → Option (Str × Str × Str)
  | [.Expr (.Call (.Attribute (.Call (.Name su _) [] [] _) ini a3) [.Name p _] [] a5) _, .Assign [.Attribute (.Name se _) f _] (.Name q _) _] => if su = "super" ∧ ini = "__init__" ∧ q = p ∧ (a3.endLine == a5.line) = true then some (se, p, f) else none
  | _ => none
theorem shape_is {body : List Stmt} {se p f : Str} (h : shapeOf body = some (se, p, f)) : ∃ a1 a2 a3 a4 a5 a6 b1 b2 b3 b4, (a3.endLine == a5.line) = true ∧ body = [.Expr (.Call (.Attribute (.Call (.Name "super" a1) [] [] a2) "__init__" a3) [.Name p a4] [] a5) a6, .Assign [.Attribute (.Name se b1) f b2] (.Name p b3) b4] := by
  unfold shapeOf at h
  split at h
  · split at h
    · rename_i z
      obtain ⟨rfl, rfl, rfl, zz⟩ := z
      cases h
      exact ⟨_, _, _, _, _, _, _, _, _, _, zz, rfl⟩
    · cases h
  · cases h
/-- the record of such an exception -/
abbrev recX (C t : Addr) (d : Option Addr) : Obj := { cls := .ref C, dict := d, data := .fields #[.ref t, .none, .none, .none, .bool false, .none] }
section
variable {prog : Program} {w : World} {A : Around} {E : Value → Shared → Prop} {h : Heap} {g : Array GenState} {d : Drawn} {t : Nat} {os : OsState} {K : Frag} {B i newId : String} {bmB : List Value} {C e u t0 : Addr}
/-- the bound built-in __init__ is called -/
theorem call_wrap {rest : List Value} {Q : Value → Shared → Prop} (X : K.In h) (FB : ExcBaseFacts B newId i bmB) (q : excInitIn K C bmB newId = true) (hu : h.get? u = some (kxs_mw i e)) (he : h.get? e = some (recX C t0 none)) (hz : rest.length ≤ sizeLine)
    (fin : ∀ h' t1, (∀ b o, b ≠ e → h.get? b = some o → h'.get? b = some o) → h'.get? e = some (recX C t1 none) → Q .none ⟨h', g, d, t, os⟩) : wpAny (model prog w) A (call (.ref u) rest) Q E ⟨h, g, d, t, os⟩ := by
  obtain ⟨nm, N', qn, bs, bm, hdct, sn, sub, ab, col, dd, k0, k1, k2, k3, k5, hC, hT⟩ := excInit_of X q
  refine wpAny_call (codeAny_of_tree (show wpAny _ A.in1 (callAny (.ref u) ⟨rest, []⟩) _ _ _ from ?_))
  unfold callAny
  refine wpAny_bind (wpAny_load hu ?_)
  dsimp only [kxs_mw]
  rw [show (Value.type "method-wrapper" == Value.type "method" || Value.type "method-wrapper" == Value.type "builtin_function_or_method" || Value.type "method-wrapper" == Value.type "method-wrapper") = true by decide]
  refine KFB.if_so (by decide) (wpAny_bind (check_bound_init FB.toExcCallFacts hC he rfl (wpAny_bind (wpAny_pure (wpAny_pure ⟨plainId_quiet FB.init.plain _, codeAny_builtin FB.initEntry ?_⟩)))))
  exact exc_init_tree (cls := .ref C) (t0 := t0) (dv := none) (c2 := .none) (c3 := .none) (b4 := .bool false) he hz fun h' k1 k2 _ => fin h' _ k1 k2
/-- self.f = u, the first one -/
theorem store_first {f : Str} {v : Value} {Q : Unit → Shared → Prop} {cd : ClassData} (X : K.In h) (SF : StoreFacts B bmB "object.__setattr__" "object") (hov : excOver K C bmB = true) (hcd : clsIn K C = some cd) (hd : cd.hasDict = true) (hsa : findIn K (.ref C) "__setattr__" = some (some (.builtin "object.__setattr__")))
    (ht : takerIn K C f = some none) (he : h.get? e = some (recX C t0 none))
    (fin : ∀ h' tk dx, (∀ b o, b ≠ e → h.get? b = some o → h'.get? b = some o) → h.objs.size ≤ dx → dx ≠ e → h'.get? e = some (recX C t0 (some dx)) → h'.Ns1 dx (fun y => if y = f then some v else none) → Q () ⟨h', g, d, tk, os⟩) :
    wpAny (model prog w) A (setAttr (.ref e) f v) Q E ⟨h, g, d, t, os⟩ := by
  have I : InstAt h e (recX C t0 none) C none := ⟨he, rfl, rfl, trivial⟩
  have hes : e ≠ h.objs.size := Nat.ne_of_lt (Heap.lt_size he)
  refine set_plain X I hsa ?_
  refine osa_openX SF X I hov ht fun b => ?_
  have hcls : Looks (model prog w) h (classData C) cd := looks_clsIn X hcd
  obtain ⟨nm, bs, mro, ns, qn, hdc, sn, sb, ab, col, del⟩ := cd
  dsimp only at hd
  subst hd
  unfold storeInOwnDict ownDictForStores
  repeat (first | with_reducible refine HandSPX.store_in_new ?_ ?_ | with_reducible refine wpAny_loadPart_at he ?_ | with_reducible refine hcls.at ?_ | wp_step)
  · exact ⟨_, #[], _, (Heap.get?_update_ne _ _ _ _ hes.symm).trans (Heap.get?_push_at rfl rfl), rfl, fun z hz => absurd hz (by simp), fun _ => rfl⟩
  · intro h' tk' hn' hs
    have he₁ : (h.push { cls := .type "dict", data := .dict #[] }).get? e = some (recX C t0 none) := Heap.get?_push_of_some _ he
    refine fin h' tk' h.objs.size (fun b o hb ho => ?_) (Nat.le_refl _) hes.symm ?_ hn'
    · exact (hs.2 b (Nat.ne_of_lt (Heap.lt_size ho))).trans ((Heap.get?_update_ne _ _ _ _ hb).trans (Heap.get?_push_of_some _ ho))
    · exact (hs.2 e hes).trans (Heap.get?_update_self _ he₁ rfl)
end
/-- the function at an address -/
def fdAt (K : Frag) (a : Addr) : FuncData := match K.lookup a with
  | some ⟨_, _, .func fd, _⟩ => fd
  | _ => default
def isFd (K : Frag) (a : Addr) : Bool := match K.lookup a with
  | some ⟨_, _, .func _, _⟩ => true
  | _ => false
theorem fd_at {K : Frag} {a : Addr} (h : isFd K a = true) : ∃ oc od osl, K.lookup a = some ⟨oc, od, .func (fdAt K a), osl⟩ := by
  unfold isFd at h
  split at h
  · rename_i q
    exact ⟨_, _, _, by unfold fdAt; rw [q]⟩
  · cases h
def bodyOf (fd : FuncData) : List Stmt := match fd.body with
  | .stmts b => b
  | _ => []
def isStmts (fd : FuncData) : Bool := match fd.body with
  | .stmts _ => true
  | _ => false
theorem body_is {fd : FuncData} (h : isStmts fd = true) : fd.body = .stmts (bodyOf fd) := by
  unfold isStmts at h
  split at h
  · rename_i q
    unfold bodyOf; rw [q]
  · cases h
/-- the names of plain parameters -/
def parsOf (a : Arguments) : Option (List Str) := match a with
  | ⟨[], xs, none, [], [], none, []⟩ => some (xs.map (·.arg))
  | _ => none
def fileIn (K : Frag) (a : Addr) : Option Str := match K.lookup a with
  | some ⟨_, _, .fields vs, _⟩ => (match vs[2]? with | some (Value.str f _) => some f | _ => none)
  | _ => none
theorem file_at {K : Frag} {a : Addr} {f : Str} (h : fileIn K a = some f) : ∃ oc od osl vs tf, K.lookup a = some ⟨oc, od, .fields vs, osl⟩ ∧ vs[2]? = some (.str f tf) := by
  unfold fileIn at h
  split at h
  · rename_i q
    split at h
    · rename_i r
      cases h
      exact ⟨_, _, _, _, _, q, r⟩
    · cases h
  · cases h
def cellIn (K : Frag) (a : Addr) : Option Value := match K.lookup a with
  | some ⟨_, _, .cell v, _⟩ => v
  | _ => none
theorem cell_at {K : Frag} {a : Addr} {v : Value} (h : cellIn K a = some v) : ∃ oc od osl, K.lookup a = some ⟨oc, od, .cell (some v), osl⟩ := by
  unfold cellIn at h
  split at h
  · rename_i q
    rw [h] at q
    exact ⟨_, _, _, q⟩
  · cases h
theorem binds3 {fd : FuncData} {p : Str} (h : parsOf fd.params = some [("self" : Str), p]) (hp : p = "word" ∨ p = "at" ∨ p = "name") (hd : fd.defaults = .none) (s : Shared) (a u : Value) : BindsTo s fd ⟨[a, u], []⟩ [(("self" : Str), a), (p, u)] := by
  obtain ⟨n, q, pr, b, sc, gl, cl, df, kd, dc, pm, an, cd, ct, bl⟩ := fd
  dsimp only at h hd
  subst hd
  unfold parsOf at h
  split at h
  · rename_i xs
    have e : xs.map (·.arg) = [("self" : Str), p] := Option.some.inj h
    match xs, e with
    | [⟨x, a1, r1⟩, ⟨y, a2, r2⟩], e =>
      simp only [List.map_cons, List.map_nil, List.cons.injEq, and_true] at e
      obtain ⟨rfl, rfl⟩ := e
      rcases hp with rfl | rfl | rfl <;> exact .of_eq rfl
  · cases h
theorem pars_head {a : Arguments} {x : Str} {r : List Str} (h : parsOf a = some (x :: r)) : ∃ ar : Arg, (a.posonlyargs ++ a.args).head? = some ar ∧ ar.arg = x := by
  unfold parsOf at h
  split at h
  · rename_i xs
    have e : xs.map (·.arg) = x :: r := Option.some.inj h
    match xs, e with
    | y :: ys, e =>
      simp only [List.map_cons, List.cons.injEq] at e
      exact ⟨y, rfl, e.1⟩
  · cases h
/-- what the written part says of an own exception's class with such an __init__ -/
structure XcF (prog : Program) (K : Frag) (B i newId : String) (bmB : List Value) (C fI cc cda : Addr) (f : Str) (cd : ClassData) : Prop where
  FB : ExcBaseFacts B newId i bmB
  KF : KxsFacts B i
  SF : StoreFacts B bmB "object.__setattr__" "object"
  ini : excInitIn K C bmB newId = true
  ov : excOver K C bmB = true
  hi : findIn K (.ref C) "__init__" = some (some (.ref fI))
  fn : isFn K (.ref fI) = true
  fd : isFd K fI = true
  clo : (fdAt K fI).closure = [(("__class__" : Str), cc)]
  st : isStmts (fdAt K fI) = true
  sh : shapeOf (bodyOf (fdAt K fI)) = some (("self" : Str), f, f)
  code : (fdAt K fI).code = .ref cda
  glo : (fdAt K fI).globals = mainGlobals
  bui : (fdAt K fI).builtins = builtinsNs
  dfl : (fdAt K fI).defaults = .none
  par : parsOf (fdAt K fI).params = some [("self" : Str), f]
  nam : f = "word" ∨ f = "at" ∨ f = "name"
  cod : codeIn K (.ref cda) (fdAt K fI).qualname = true
  fil : fileIn K cda = some prog.main.file
  top : (prog.main.scope.names.lookup ("super" : Str)).isSome = false
  cel : cellIn K cc = some (.ref C)
  cls : clsIn K C = some cd
  hd : cd.hasDict = true
  mro : mroIn K C (.ref C) = some true
  sup : nsIn K mainGlobals "super" = some none
  tpa : nsIn K cStatics "thirdparty.any" = some none
  sin : ks_superIn K C C "__init__" = some (some (.builtin i))
  sub : subIn K (.ref C) (.type B) = some true
  seta : findIn K (.ref C) "__setattr__" = some (some (.builtin "object.__setattr__"))
  tak : takerIn K C f = some none
  s1 : (fdAt K fI).scope.names.lookup ("super" : Str) = some .globalImplicit
  s2 : (fdAt K fI).scope.names.lookup ("__class__" : Str) = some .free
  s3 : (fdAt K fI).scope.names.lookup ("self" : Str) = some .local
  s4 : (fdAt K fI).scope.names.lookup f = some .local
  s5 : (fdAt K fI).scope.kind = .function
  s6 : (fdAt K fI).scope.isCoroutine = false
  s7 : (fdAt K fI).scope.isGenerator = false
  s8 : (fdAt K fI).scope.names.all (fun x => decide (x.2 ≠ .cell)) = true
section
variable {prog : Program} {w : World} {A : Around} {R : Result → Shared → Prop} {h : Heap} {g : Array GenState} {d : Drawn} {t : Nat} {os : OsState} {K : Frag} {B i newId : String} {bmB : List Value} {C fI cc cda e t0 : Addr} {f : Str} {cd : ClassData} {mg mb : Str → Option Value} {u : Value}
theorem nsKeep {h h' : Heap} {L : Addr} {m : Str → Option Value} (n : h.Ns L m) (k : ∀ b o, h.get? b = some o → h'.get? b = some o) : h'.Ns L m := by
  obtain ⟨o, es, ep, a, r⟩ := n
  exact ⟨o, es, ep, k _ _ a, r⟩
theorem ev_local {M : Model} {E : Value → Shared → Prop} {s : Shared} {env : Env} {m : Str → Option Value} {x : Str} {pos : Pos} {v : Value} {Q : Value → Shared → Prop} (hn : s.heap.Ns env.locals m) (hv : m x = some v) (q : Q v s) (hk : env.scope.kind = .function) (hl : env.kindOf x = some .local) (hd : (x == ("__debug__" : Str)) = false) :
    wpAny M A (eval (.Name x pos) env) Q E s := wpAny_Name (wpAny_loadName_local hk hl hn hv q) hd
/-- such an __init__ is run -/
theorem run_init (T : XcF prog K B i newId bmB C fI cc cda f cd) (X : K.In h) (hg : h.Ns mainGlobals mg) (hb : h.Ns builtinsNs mb) (hbb : ∀ x : Str, x ≠ "__name__" → mb x = bootBuiltins x) (hlim : h.NoLimit) (hroom : A.depth < recursionLimit) (he : h.get? e = some (recX C t0 none)) (heK : K.lookup e = none)
    (fin : ∀ h' tk t1 dx, (∀ b o, b ≠ e → h.get? b = some o → h'.get? b = some o) → h.objs.size ≤ dx → dx ≠ e → h'.get? e = some (recX C t1 (some dx)) → h'.Ns1 dx (fun y => if y = f then some u else none) → R (.ok (.ret .none)) ⟨h', g, d, tk, os⟩) :
    codeAny (model prog w) A (.call (.ref fI) ⟨[.ref e, u], []⟩) R ⟨h, g, d, t, os⟩ := by
  obtain ⟨oc, od, osl, hlk⟩ := fd_at T.fd
  obtain ⟨ccl, cdd, ccs, vs, tf, hcode, hvs⟩ := file_at T.fil
  obtain ⟨cl, cld, csl, hcell⟩ := cell_at T.cel
  obtain ⟨ar, har, hse⟩ := pars_head T.par
  obtain ⟨a1, a2, a3, a4, a5, a6, b1, b2, b3, b4, hline, hbody⟩ := shape_is T.sh
  have fself : (f == ("self" : Str)) = false := by rcases T.nam with rfl | rfl | rfl <;> decide +kernel
  have fdbg : (f == ("__debug__" : Str)) = false := by rcases T.nam with rfl | rfl | rfl <;> decide +kernel
  have hne : ("self" : Str) ≠ f := fun z => by rw [← z] at fself; exact absurd fself (by decide +kernel)
  have hloc : ∀ x ∈ ([(("self" : Str), Value.ref e), (f, u)] : List (Str × Value)), (fdAt K fI).scope.names.lookup x.1 = some .local := by
    intro x hx
    simp only [List.mem_cons, List.not_mem_nil, or_false] at hx
    rcases hx with rfl | rfl
    · exact T.s3
    · exact T.s4
  obtain ⟨oD, hD1, hD2⟩ : ∃ oD, h.get? C = some oD ∧ oD.data = .cls cd := by
    have hD := T.cls
    unfold clsIn at hD
    split at hD
    · rename_i ho
      cases hD
      exact ⟨_, X _ _ ho, rfl⟩
    · cases hD
  refine ks_codeAny_call_defAt (fd := fdAt K fI) (body := bodyOf (fdAt K fI)) (binds := [(("self" : Str), .ref e), (f, u)]) hroom (X _ _ hlk) rfl hlim (by rw [T.code]; exact codeRec_of X T.cod) (body_is T.st) (binds3 T.par T.nam T.dfl _ _ _) (fun x hx => of_decide_eq_true (List.all_eq_true.mp T.s8 x hx)) hloc (fun h₁ hns k1 => ?_) T.s6 T.s7 T.s5
  rw [hbody]
  generalize hev : callEnv (fdAt K fI) h.objs.size fI = env
  have e1 : env.scope = (fdAt K fI).scope := by rw [← hev]; rfl
  have e2 : env.locals = h.objs.size := by rw [← hev]; rfl
  have e3 : env.cells = [(("__class__" : Str), cc)] := by rw [← hev]; exact T.clo
  have e4 : env.func = some fI := by rw [← hev]; rfl
  have e5 : env.code = .ref cda := by rw [← hev]; exact T.code
  have e6 : env.globals = mainGlobals := by rw [← hev]; exact T.glo
  have e7 : env.builtins = builtinsNs := by rw [← hev]; exact T.bui
  have ek : env.scope.kind = .function := by rw [e1]; exact T.s5
  have ko : ∀ {x : Str} {k : NameKind}, (fdAt K fI).scope.names.lookup x = some k → env.kindOf x = some k := fun {x k} z => by
    show env.scope.names.lookup x = _
    rw [e1]; exact z
  have X1 : K.In h₁ := X.keeps k1
  have hmc : eval (.Call (.Attribute (.Call (.Name "super" a1) [] [] a2) "__init__" a3) [.Name f a4] [] a5) env = (do
      let ov ← attributeBase (.Call (.Name "super" a1) [] [] a2) "__init__" env (eval (.Call (.Name "super" a1) [] [] a2) env)
      standAt a3.atName
      let (z, first) ← holding [ov] (getMethod ov "__init__" (L2.plainOf (.Call (.Name "super" a1) [] [] a2) env))
      callWith a5 z first (backTo a5 (starEach [.Name f a4] env)) []) := by
    show (do let ov ← attributeBase (.Call (.Name "super" a1) [] [] a2) "__init__" env (eval (.Call (.Name "super" a1) [] [] a2) env); standAt a3.atName; methodCall (.Call (.Name "super" a1) [] [] a2) "__init__" a3 a5 env ov 1 (backTo a5 (starEach [.Name f a4] env)) (backToKw a5 (keywordEach [] env))) = _
    simp only [L2.mcall_line (o := .Call (.Name "super" a1) [] [] a2) (env := env) (n := 1) (args := backTo a5 (starEach [.Name f a4] env)) (kws := backToKw a5 (keywordEach [] env)) (by rfl) hline]
    rfl
  refine ks_wpAt_execs_cons (ks_wpAt_Expr_any (ks_wpAt_MethodCall (pl := L2.plainOf (.Call (.Name "super" a1) [] [] a2) env) ?_ hmc) ?_ rfl)
  rotate_left
  · unfold interactive; rw [ek]; rfl
  have lself : ([(("self" : Str), Value.ref e), (f, u)] : List (Str × Value)).reverse.lookup ("self" : Str) = some (Value.ref e) := by
    show List.lookup _ [(f, u), (("self" : Str), Value.ref e)] = _
    have : (("self" : Str) == f) = false := by
      rcases T.nam with rfl | rfl | rfl <;> decide +kernel
    simp [List.lookup, this]
  have lf : ([(("self" : Str), Value.ref e), (f, u)] : List (Str × Value)).reverse.lookup f = some u := by
    show List.lookup _ [(f, u), (("self" : Str), Value.ref e)] = _
    simp [List.lookup]
  refine ks_wpAt_super_base (env := env) (ko T.s1) (ko T.s2) rfl e4 (X1 _ _ hlk) rfl har e5 (X1 _ _ hcode) rfl hvs (beq_self_eq_true _) T.top ?_
  refine ks_loadName_global ek (ko T.s1) (loadGlobal_builtin (by rw [e6]; exact nsKeep hg k1) (mg_none_of X hg T.sup) (by rw [e7]; exact nsKeep hb k1) ((hbb _ (by decide +kernel)).trans (by first | rfl | kernel_rfl)) ⟨rfl, ?_⟩)
  refine wpAny_loadName_free ek (ko T.s2) (by rw [e3]; rfl) ⟨_, X1 _ _ hcell, rfl⟩ ?_
  rw [hse]
  refine wpAny_loadName_local ek (ko T.s3) (by rw [e2]; exact hns) lself ?_
  refine ks_wpAny_isType_cls (k1 _ _ hD1) hD2 ⟨rfl, ?_⟩
  refine ks_wpAny_call_super (k1 _ _ hD1) hD2 (k1 _ _ he) rfl (fun c z => by cases z) (looks_mroIn X1 T.mro) (fun h₂ hso k2 => ?_)
  have X2 : K.In h₂ := X1.keeps k2
  have he2 : h₂.get? e = some (recX C t0 none) := k2 _ _ (k1 _ _ he)
  have I2 : InstAt h₂ e (recX C t0 none) C none := ⟨he2, rfl, rfl, trivial⟩
  have hm : ∃ l, (cd.mro.dropWhile (· != .ref C)).drop 1 = l ∧ alongIn K "__init__" l = some (some (.builtin i)) := by
    have z := T.sin
    unfold ks_superIn at z
    rw [T.cls] at z
    exact ⟨_, rfl, z⟩
  obtain ⟨l, hl, hal⟩ := hm
  refine kxs_getMethod T.KF hso (looks_opaque X2 T.tpa) (l₀ := cd.mro) (fun A Q E s k q => wpAny_bind ((looks_clsIn X2 T.cls) A _ E s k (wpAny_pure q))) hl X2 hal (I2.type.andThen (looks_subIn X2 T.sub)) (ks_ne X2 I2 T.cls) rfl ?_
  have k3 : ∀ b o, h₂.get? b = some o → (h₂.push (kxs_mw i e)).get? b = some o := fun b o z => Heap.get?_push_of_some _ z
  have hmw : (h₂.push (kxs_mw i e)).get? h₂.objs.size = some (kxs_mw i e) := Heap.get?_push_at rfl rfl
  have hns3 : (h₂.push (kxs_mw i e)).Ns env.locals (fun y => ([(("self" : Str), Value.ref e), (f, u)] : List (Str × Value)).reverse.lookup y) := by rw [e2]; exact nsKeep (nsKeep hns k2) k3
  refine kxs_callWith (i := i) (x := e) rfl (evalArgs_plain ?_)
  have hsp : ∀ {M : Model} {A : Around} {E : Value → Shared → Prop} {s : Shared} {Q : List Value → Shared → Prop}, s.heap.Ns env.locals (fun y => ([(("self" : Str), Value.ref e), (f, u)] : List (Str × Value)).reverse.lookup y) → Q [u] s → wpAny M A (spliced (backTo a5 (starEach [.Name f a4] env))) Q E s := fun hn q =>
    spliced_more (ev_local hn lf (spliced_none q) ek (ko T.s4) fdbg)
  refine hsp hns3 ⟨hmw, ?_⟩
  refine call_wrap (K := K) (X2.keeps k3) T.FB T.ini hmw (k3 _ _ he2) (show 1 ≤ sizeLine by decide) fun h₄ t1 k4 he4 => ?_
  have kA : ∀ b o, b ≠ e → h₁.get? b = some o → h₄.get? b = some o := fun b o n z => k4 b o n (k3 _ _ (k2 _ _ z))
  have Le : env.locals ≠ e := by
    rw [e2]; exact fun z => absurd (Heap.lt_size he) (by rw [← z]; exact Nat.lt_irrefl _)
  have hns4 : h₄.Ns env.locals (fun y => ([(("self" : Str), Value.ref e), (f, u)] : List (Str × Value)).reverse.lookup y) := by
    obtain ⟨o, es, ep, z, r⟩ := hns3
    exact ⟨o, es, ep, k4 _ _ Le z, r⟩
  dsimp only
  refine ks_wpAt_execs_cons (ks_wpAt_Assign_Attr ?_ rfl)
  refine wpAt_of_wpAny (ev_local hns4 lf (ev_local hns4 lself ?_ ek (ko T.s3) rfl) ek (ko T.s4) fdbg)
  have X4 : K.In h₄ := fun b o z => kA b o (fun y => by rw [y, heK] at z; cases z) (X1 b o z)
  refine store_first (K := K) X4 T.SF T.ov T.cls T.hd T.seta T.tak he4 fun h₅ tk dx k5 hdx hne5 he5 hn5 => ?_
  have up : h.objs.size ≤ h₄.objs.size := by
    rcases Nat.lt_or_ge h₄.objs.size h.objs.size with q | q
    · obtain ⟨oE, hoE⟩ : ∃ o, h₄.get? env.locals = some o := by obtain ⟨o, es, ep, z, r⟩ := hns4; exact ⟨o, z⟩
      have := Heap.lt_size hoE
      rw [e2] at this
      exact absurd (Nat.lt_trans this q) (Nat.lt_irrefl _)
    · exact q
  have R1 := fin h₅ tk t1 dx (fun b o n z => k5 b o n (kA b o n (k1 _ _ z))) (Nat.le_trans up hdx) hne5 he5 hn5
  show PySem.wpAt _ _ _ (execs [] env) _ _ _
  exact wpAt_of_wpAny (wpAny_pure R1)
end
end TreeX
end
section
/-! TL24: raise C(e), of trees. -/
namespace TreeX
open PySem PySem.Spec PyProof.Rows L2 TreeL
section
variable {X : Cx} {B i newId : String} {bmB : List Value} {C fI cc cda : Addr} {f : Str} {cd : ClassData} {e : Expr} {ta : TE} {x : Str} {p pos : Pos}
/-- C(e): an exception, its dict holds e's value -/
theorem pmk_x (T : XcF X.prog X.K B i newId bmB C fI cc cda f cd) (k1 : PySem.W.keepIn X.K (.ref C) = true) (k2 : PySem.W.subIn X.K (.ref C) (.type "BaseException") = some true) (k3 : PySem.W.typeIn X.K (.ref C) = some (.type "type")) (k4 : PySem.W.typeIn X.K (.ref fI) = some (.type "function")) (hr : Room 1 X.A) (hg : Gl X x) (hm : X.mg x = some (.ref C)) (he : PE X e ta)
    (hdb : (x == ("__debug__" : Str)) = false := by decide) (hst : starEach [e] X.env = (false, eval e X.env) :: starEach [] X.env := by rfl) :
    PMk X (.Call (.Name x p) [e] [] pos) (fun σ H Q => ta σ H fun v H1 => ∀ d, H1 d = none → Q (.ref C) (some d) (upd H1 d (.xd [(f, v)]))) := by
  intro pins s σ H Q I h
  refine wpAny_Call_Name_kw (ld_glob I hg hm ?_ hdb)
  have hpa : PA X [e] (tCons ta tNil) := pa_cons he pa_nil hst
  refine PySem.W.callWith_K (h₀ := X.base) I.ok.mod.kin k1 (thn (hpa.run pos pins s σ H (fun vs H1 => match vs with | [v] => ∀ d, H1 d = none → Q (.ref C) (some d) (upd H1 d (.xd [(f, v)])) | _ => False) I h) fun us s1 hh => ?_) hst (by rfl)
  obtain ⟨vs, H1, I1, r1, q1⟩ := hh
  refine ⟨I1.kIn, ?_⟩
  cases r1 with
  | nil => exact q1.elim
  | cons ru rn =>
  cases rn with
  | cons _ _ => exact q1.elim
  | nil =>
    rename_i v u
    show wpAny _ _ (call (.ref C) [u]) _ _ _
    obtain ⟨hp, g, dr, tk, os⟩ := s1
    obtain ⟨nm, N', qn, bs, bm, hdct, sn, sub, ab, col, dd, c0, c1, c2, c3, c5, hC, hT⟩ := PySem.W.excInit_of I1.kIn T.ini
    have kk : ∀ b o, hp.get? b = some o → ((hp.push (PySem.W.kdv_tup [u])).push (PySem.HandSPX.excO C hp.objs.size)).get? b = some o := fun b o e => Heap.get?_push_of_some _ (Heap.get?_push_of_some _ e)
    have hget : ((hp.push (PySem.W.kdv_tup [u])).push (PySem.HandSPX.excO C hp.objs.size)).get? (hp.objs.size + 1) = some (PySem.HandSPX.excO C hp.objs.size) := by heap_get
    obtain ⟨mb, hb1, hb2⟩ := I1.mod.blt
    have KX := I1.kIn
    have hne : hp.get? (hp.objs.size + 1) = none := Heap.get?_none_of_le (Nat.le_succ _)
    refine wpAny_call (PySem.HandSPX.call_own T.FB hT hC (PySem.W.looks_findIn KX T.hi) (fun self => PySem.W.bind_fn KX self k4) (show 1 ≤ sizeLine by decide) ?_)
    refine run_init (mb := mb) T (KX.keeps kk) ((I1.mod.glob.keeps I1.bk).keeps kk) ((hb1.keeps I1.bk).keeps kk) hb2 (I1.nolimit.keeps kk) ?_ hget ?_ fun h' t' t1 dx kz hdx hne' he' hn' => ?_
    · exact (hr.make C [u] []).depth
    · cases z : X.K.lookup (hp.objs.size + 1) with
      | none => rfl
      | some o => rw [KX _ _ z] at hne; cases hne
    · refine ⟨rfl, ?_⟩
      obtain ⟨G, g1, g2⟩ := restrict h' fun b => decide (b ≠ hp.objs.size + 1)
      have gk : ∀ b, b ≠ hp.objs.size + 1 → G.get? b = h'.get? b := fun b hb => g1 b (decide_eq_true hb)
      have ge : G.get? (hp.objs.size + 1) = none := g2 _ (by simp)
      have nha : ∀ {b : Addr} {o : Obj}, hp.get? b = some o → b ≠ hp.objs.size + 1 := fun {b o} z y => by rw [y, hne] at z; cases z
      have hGk : ∀ b o, hp.get? b = some o → G.get? b = some o := fun b o z => by rw [gk b (nha z)]; exact kz b o (nha z) (kk b o z)
      have hszd : hp.objs.size ≤ dx := by
        refine Nat.le_trans ?_ hdx
        rw [Heap.size_push, Heap.size_push]
        exact Nat.le_succ_of_le (Nat.le_succ _)
      have I2 : Inv X pins σ (upd H1 dx (.xd [(f, v)])) ⟨G, g, dr, t', os⟩ := I1.laid (t' := t') (a := dx) (h' := G) hGk hszd
        ⟨_, hn'.at fun o y => (gk dx hne').trans y, fun y => by
          by_cases z : y = f
          · subst z
            simp [List.lookup]
            exact ru
          · have : (y == f) = false := by simpa using z
            simp [List.lookup, this, z]
            trivial⟩
      have n1 : H1 dx = none := I1.hok.fresh hszd
      refine ⟨hp.objs.size + 1, _, _, ⟨G, g, dr, t', os⟩, _, .ref C, some dx, rfl, I2, fun b o z => ?_, ge, he', ⟨rfl, rfl⟩, rfl, rfl, ?_, rfl, I1.bare, raises_own k2 k3, q1 dx n1⟩
      · have hb : b ≠ hp.objs.size + 1 := fun y => by rw [y, ge] at z; cases z
        have z' : G.get? b = some o := z
        rw [gk b hb] at z'
        exact z'
      · rw [upd_ne (Ne.symm hne')]
        exact I1.hok.gone hne
/-- C(): an exception of a class without an __init__ of its own -/
theorem pmk_x0 (F : ExcBaseFacts B newId i bmB) (q : PySem.W.excIn X.K C bmB newId = true) (gC : X.mg x = some (.ref C)) (kC : PySem.W.keepIn X.K (.ref C) = true) (k2 : PySem.W.subIn X.K (.ref C) (.type "BaseException") = some true) (k3 : PySem.W.typeIn X.K (.ref C) = some (.type "type")) (hg : Gl X x)
    (hdb : (x == ("__debug__" : Str)) = false := by decide) : PMk X (.Call (.Name x p) [] [] pos) (fun _ H Q => Q (.ref C) none H) := by
  intro pins s σ H Q I h
  refine wpAny_Call_Name_kw (ld_glob I hg gC ?_ hdb)
  refine PySem.W.callWith_K0 I.kIn kC ?_
  show wpAny _ _ (call (.ref C) []) _ _ _
  obtain ⟨bm, N, nm, qn, bs, hdct, sn, sub, ab, col, dd, c0, c1, c2, c3, c5, mN, hC, hN, hni, T⟩ := exc_obj I.kIn q
  exact wpAny_call_exc_subT F T hC hN hni (fun h' z hm => mk_of I hm (raises_own k2 k3) h (I.hok.gone hm.new)) (Nat.zero_le _)
end
end TreeX
end
section
/-! TL25: raise, try, of trees. -/
namespace TreeL
open PySem PySem.Spec PyProof.Rows L2
/-! ### raise -/
@[simp] def sRaise (k : Nat) (f : Str) (ea : EvE) : EvS := fun env => (ea env).so fun x e => match x with
  | .tr t => .exc ⟨k, [(f, t)]⟩ e
  | .sl _ => .bad
@[simp] def sRaise0 (k : Nat) : EvS := fun env => .exc ⟨k, []⟩ env
section
variable {X : Cx} {c : TC} {r : Ref} {W : WX} {a : Expr} {ea : EvE} {k : Nat} {x f : Str} {p pos pos' : Pos} {B i newId : String} {bmB : List Value} {fI cc cda : Addr} {cd : ClassData}
theorem ts_raise (T : TreeX.XcF X.prog X.K B i newId bmB (c.C k) fI cc cda f cd) (k1 : PySem.W.keepIn X.K (.ref (c.C k)) = true) (k2 : PySem.W.subIn X.K (.ref (c.C k)) (.type "BaseException") = some true) (k3 : PySem.W.typeIn X.K (.ref (c.C k)) = some (.type "type")) (k4 : PySem.W.typeIn X.K (.ref fI) = some (.type "function"))
    (hr : RoomG 1 X.A) (hc : X.calm = true) (tk : Takes X W) (hg : Gl X x) (hm : X.mg x = some (.ref (c.C k))) (ha : PE X a (TEof c r W ea)) (hdb : (x == ("__debug__" : Str)) = false := by decide) (hst : starEach [a] X.env = (false, eval a X.env) :: starEach [] X.env := by rfl) :
    PS X (.Raise (some (.Call (.Name x p) [a] [] pos)) none pos') (TSof c r W (sRaise k f ea)) := by
  refine PS.imp (ps_raise hc tk (TreeX.pmk_x T k1 k2 k3 k4 hr.rm hg hm ha hdb hst)) fun D σ H h => ?_
  obtain ⟨ads, G, env, R, h⟩ := h
  refine ⟨ads, G, env, R, ?_⟩
  unfold sRaise at h
  rw [RE.so_Sat] at h
  refine Sat_mono h (fun t e he => ?_) (fun y e he => XC.of he)
  intro ads' G' H' v R' N' vr d hd
  cases t with
  | sl j => exact he.elim
  | tr t =>
    have st : Step [] H' G' (upd H' d (.xd [(f, v)])) (upd G' d (.xd [(f, v)])) := Step.alloc R'.sub hd
    exact he ads' _ _ σ _ _ (R'.next st) (N'.sub.trans st.sub) ⟨rfl, .inr ⟨d, _, rfl, upd_same, v, [], rfl, Rep.mono st.sub vr, rfl⟩⟩
theorem ts_raise0 (F : ExcBaseFacts B newId i bmB) (q : PySem.W.excIn X.K (c.C k) bmB newId = true) (k1 : PySem.W.keepIn X.K (.ref (c.C k)) = true) (k2 : PySem.W.subIn X.K (.ref (c.C k)) (.type "BaseException") = some true) (k3 : PySem.W.typeIn X.K (.ref (c.C k)) = some (.type "type"))
    (hc : X.calm = true) (tk : Takes X W) (hg : Gl X x) (hm : X.mg x = some (.ref (c.C k))) (hdb : (x == ("__debug__" : Str)) = false := by decide) :
    PS X (.Raise (some (.Call (.Name x p) [] [] pos)) none pos') (TSof c r W (sRaise0 k)) := by
  refine PS.imp (ps_raise hc tk (TreeX.pmk_x0 F q hm k1 k2 k3 hg hdb)) fun D σ H h => ?_
  obtain ⟨ads, G, env, R, h⟩ := h
  exact h ads G H σ _ _ R (Sub.refl G) ⟨rfl, .inl ⟨rfl, rfl⟩⟩
end
/-! ### try -/
theorem PSs.ex {ι : Type} {X : Cx} {st : List Stmt} {P : ι → Prop} {t : ι → TS} (h : ∀ i, P i → PSs X st (t i)) : PSs X st (fun D σ H => ∃ i, P i ∧ t i D σ H) :=
  ⟨fun pins s σ H D I ⟨i, p, q⟩ => (h i p).run pins s σ H D I q⟩
theorem PE.ex {ι : Type} {X : Cx} {e : Expr} {P : ι → Prop} {t : ι → TE} (h : ∀ i, P i → PE X e (t i)) : PE X e (fun σ H Q => ∃ i, P i ∧ t i σ H Q) :=
  ⟨fun pins s σ H Q I ⟨i, p, q⟩ => (h i p).run pins s σ H Q I q⟩
/-- what is pinned within an except suite -/
def refS (H G : Hp) (js : List Nat) (ads : Nat → List Addr) (σ : L2.St) (i : Nat) (a : Addr) : Ref :=
  ⟨H, G, (js.map ads).flatten, (i, .ref a, []) :: js.map fun j => (j, (σ[j]?.join).getD .non, ads j)⟩
theorem refS_pins {H G : Hp} {js : List Nat} {ads : Nat → List Addr} {σ : L2.St} {i : Nat} {a : Addr} : (refS H G js ads σ i a).pins.map Prod.fst = i :: js := by
  simp [refS, Function.comp_def]
/-- all that is owned stands at js, js have values, i is none of them -/
def okS (js : List Nat) (i : Nat) (env : En) : Bool := (!js.contains i && decide (i < env.length)) && (js.all (fun j => match env[j]? with
    | some (some _) => true
    | _ => false) && (List.range env.length).all fun j => match env[j]? with
    | some (some (.ow _)) => js.contains j
    | _ => true)
section
variable {c : TC} {r : Ref} {ads ads2 : Nat → List Addr} {G H G2 H2 : Hp} {σ σ2 : L2.St} {env env2 : En} {js pn : List Nat} {i : Nat} {a : Addr}
theorem okS_own (h : okS js i env = true) {j : Nat} {o : OS} (e : env[j]? = some (some (.ow o))) : j ∈ js := by
  unfold okS at h
  simp only [Bool.and_eq_true] at h
  have lt := (List.getElem?_eq_some_iff.mp e).1
  have z := List.all_eq_true.mp h.2.2 j (List.mem_range.mpr lt)
  rw [e] at z
  simpa using z
theorem okS_i (h : okS js i env = true) : i ∉ js := by
  unfold okS at h
  simp only [Bool.and_eq_true, Bool.not_eq_true'] at h
  intro z
  have := h.1.1
  rw [List.contains_iff_mem.mpr z] at this
  cases this
theorem okS_lt (h : okS js i env = true) : i < env.length := by
  unfold okS at h
  simp only [Bool.and_eq_true] at h
  exact of_decide_eq_true h.1.2
theorem okS_val (h : okS js i env = true) {j : Nat} (hj : j ∈ js) : ∃ x, env[j]? = some (some x) := by
  unfold okS at h
  simp only [Bool.and_eq_true] at h
  have z := List.all_eq_true.mp h.2.1 j hj
  split at z
  · rename_i x q
    exact ⟨_, q⟩
  · cases z
theorem RS.intoS (R : RS c r ads G H σ env) (ok : okS js i env = true) : RS c (refS H G js ads σ i a) (fun j => if j = i then [] else ads j) G H (σ.set i (some (.ref a))) (env.set i none) where
  step := Step.refl R.sub
  len := by simp [R.len]
  slot := fun j => by
    by_cases h : j = i
    · subst h
      rw [if_pos rfl]
      have : (env.set j none)[j]?.join = none := by
        have lt := okS_lt ok
        simp [lt]
      rw [this]
      exact rfl
    · rw [if_neg h, join_set_ne (Ne.symm h), join_set_ne (Ne.symm h)]
      exact R.slot j
  own := fun j b hb => by
    by_cases h : j = i
    · subst h; rw [if_pos rfl] at hb; cases hb
    · rw [if_neg h] at hb
      refine ⟨(R.own j b hb).1, .inl ?_⟩
      have hj : j ∈ js := by
        have z := R.slot j
        cases q : env[j]? with
        | none => rw [q] at z; rw [show ads j = [] from z] at hb; cases hb
        | some y =>
          rw [q] at z
          cases y with
          | none => rw [show ads j = [] from z] at hb; cases hb
          | some y =>
            cases y with
            | ow o => exact okS_own ok q
            | t t =>
              cases w : σ[j]?.join with
              | none => rw [w] at z; exact (show False from z).elim
              | some v => rw [w] at z; rw [z.1] at hb; cases hb
      refine ⟨?_, ?_⟩
      · rw [refS_pins]
        exact List.mem_cons_of_mem _ hj
      · exact List.mem_flatten.mpr ⟨ads j, List.mem_map_of_mem hj, hb⟩
  disj := fun j k b h1 h2 => by
    by_cases e1 : j = i
    · rw [if_pos e1] at h1; cases h1
    · by_cases e2 : k = i
      · rw [if_pos e2] at h2; cases h2
      · rw [if_neg e1] at h1; rw [if_neg e2] at h2
        exact R.disj j k b h1 h2
  pin := fun q hq => by
    rcases List.mem_cons.mp hq with rfl | hq
    · refine ⟨?_, by simp⟩
      have lt : i < σ.length := by rw [← R.len]; exact okS_lt ok
      show (σ.set i (some (.ref a)))[i]? = _
      simp [lt]
    · obtain ⟨j, hj, rfl⟩ := List.mem_map.mp hq
      have hne : j ≠ i := fun z => okS_i ok (z ▸ hj)
      refine ⟨?_, by show (if j = i then [] else ads j) = ads j; rw [if_neg hne]⟩
      show (σ.set i (some (.ref a)))[j]? = some (some ((σ[j]?.join).getD .non))
      rw [List.getElem?_set_ne (Ne.symm hne)]
      obtain ⟨y, hy⟩ := okS_val ok hj
      have z := R.slot j
      rw [hy] at z
      cases w : σ[j]? with
      | none => rw [w] at z; cases y <;> exact (show False from z).elim
      | some u =>
        cases u with
        | none => rw [w] at z; cases y <;> exact (show False from z).elim
        | some v => rfl
theorem RS.outS (R : RS c r ads G H σ env) (ok : okS js i env = true) (hp : r.pins.map Prod.fst = pn) (hpi : pn.contains i = false) (hjs : (pn.all fun j => js.contains j) = true)
    (R2 : RS c (refS H G js ads σ i a) ads2 G2 H2 σ2 env2) : RS c r (fun j => if j = i then [] else ads2 j) G2 H2 (σ2.set i none) (env2.set i none) where
  step := R.step.trans R2.step fun x hx => by
    obtain ⟨l, hl, hx⟩ := List.mem_flatten.mp hx
    obtain ⟨j, hj, rfl⟩ := List.mem_map.mp hl
    rcases (R.own j x hx).2 with z | z
    · exact .inl z.2
    · exact .inr z
  len := by simp [R2.len]
  slot := fun j => by
    by_cases h : j = i
    · subst h
      rw [if_pos rfl]
      have e0 : (env2.set j none)[j]?.join = none := by
        by_cases lt : j < env2.length
        · simp [lt]
        · rw [List.getElem?_eq_none (by simpa using Nat.le_of_not_lt lt)]; rfl
      rw [e0]
      exact rfl
    · rw [if_neg h, join_set_ne (Ne.symm h), join_set_ne (Ne.symm h)]
      exact R2.slot j
  own := fun j b hb => by
    by_cases h : j = i
    · subst h; rw [if_pos rfl] at hb; cases hb
    · rw [if_neg h] at hb
      refine ⟨(R2.own j b hb).1, ?_⟩
      rcases (R2.own j b hb).2 with z | z
      · have hj : j ∈ js := by
          have := z.1
          rw [refS_pins] at this
          rcases List.mem_cons.mp this with y | y
          · exact absurd y h
          · exact y
        have hq := (R2.pin _ (List.mem_cons_of_mem _ (List.mem_map_of_mem (f := fun j => (j, (σ[j]?.join).getD V.non, ads j)) hj))).2
        rw [show ads2 j = ads j from hq] at hb
        exact (R.own j b hb).2
      · exact .inr (R.step.there b z)
  disj := fun j k b h1 h2 => by
    by_cases e1 : j = i
    · rw [if_pos e1] at h1; cases h1
    · by_cases e2 : k = i
      · rw [if_pos e2] at h2; cases h2
      · rw [if_neg e1] at h1; rw [if_neg e2] at h2
        exact R2.disj j k b h1 h2
  pin := fun q hq => by
    have hm : q.1 ∈ pn := by rw [← hp]; exact List.mem_map_of_mem hq
    have hne : q.1 ≠ i := fun z => by
      rw [z] at hm
      rw [List.contains_iff_mem.mpr hm] at hpi
      cases hpi
    have hj : q.1 ∈ js := List.contains_iff_mem.mp (List.all_eq_true.mp hjs q.1 hm)
    have z := R2.pin _ (List.mem_cons_of_mem _ (List.mem_map_of_mem (f := fun j => (j, (σ[j]?.join).getD V.non, ads j)) hj))
    have w := R.pin q hq
    refine ⟨?_, ?_⟩
    · rw [List.getElem?_set_ne (Ne.symm hne), show σ2[q.1]? = some (some ((σ[q.1]?.join).getD .non)) from z.1, w.1]
      rfl
    · show (if q.1 = i then [] else ads2 q.1) = q.2.2
      rw [if_neg hne, show ads2 q.1 = ads q.1 from z.2, w.2]
end
@[simp] def sTry (i : Nat) (js ks yes : List Nat) (body : EvS) (suite : EX → EvS) : EvS := fun env => match body env with
  | .exc x e => if ks.contains x.k then (if yes.contains x.k then (if okS js i e then (match suite x (e.set i none) with
      | .nx e' => .nx (e'.set i none)
      | _ => .bad) else .bad) else .exc x e) else .bad
  | o => o
/-- a suite's promise: y the exception -/
def tSuite (c : TC) (i : Nat) (js ks : List Nat) (ys : EX → EvS) (a : Addr) (cls : Value) (d : Option Addr) : TS := fun D σ H => ∃ q : EX × Ref, (RepX c q.2.G0 q.1 cls d q.2.H0 ∧ (i, V.ref a, []) ∈ q.2.pins ∧ q.2.pins.map Prod.fst = i :: js ∧ ks.contains q.1.k = true) ∧ TSof c q.2 W0 (ys q.1) D σ H
section
variable {X : Cx} {c : TC} {r : Ref} {W : WX} {xs : EvS} {ys : EX → EvS} {i kx : Nat} {js ks yes pn : List Nat} {body suite : List Stmt} {b₀ : Stmt} {n x : Str} {np pos pos' : Pos}
theorem try_core {D : Ends} {σ : L2.St} {H : Hp} {wE : WX} (hp : r.pins.map Prod.fst = pn) (hpi : pn.contains i = false) (hjs : (pn.all fun j => js.contains j) = true)
    (hw : ∀ cls d σ' H' (y : EX), cls = .ref (c.C y.k) → ks.contains y.k = true → (yes.contains y.k = true → ∀ a, H' a = none → tSuite c i js ks ys a cls d { nx := fun σ' H' => D.nx (σ'.set i none) H', rt := D.rt, bk := fun σ' H' => D.bk (σ'.set i none) H', ct := fun σ' H' => D.ct (σ'.set i none) H' } (σ'.set i (some (.ref a))) H') → (yes.contains y.k = false → W cls d σ' H') → wE cls d σ' H')
    (h : TSof c r W (sTry i js ks yes xs ys) D σ H) : TSof c r wE xs D σ H := by
  obtain ⟨ads, G, env, R, h⟩ := h
  refine ⟨ads, G, env, R, ?_⟩
  unfold sTry at h
  cases q : xs env with
  | nx e => rw [q] at h; exact h
  | rt t e => rw [q] at h; exact h
  | bk e => rw [q] at h; exact h
  | ct e => rw [q] at h; exact h
  | bad => rw [q] at h; exact h
  | exc y e =>
    rw [q] at h
    dsimp only at h
    intro ads' G' H' σ' cls d R' s' rx
    by_cases hk : ks.contains y.k = true
    rotate_left
    · rw [if_neg hk] at h; exact h.elim
    rw [if_pos hk] at h
    refine hw cls d σ' H' y rx.1 hk (fun hy a ha => ?_) (fun hy => ?_)
    · rw [if_pos hy] at h
      by_cases ok : okS js i e = true
      rotate_left
      · rw [if_neg ok] at h; exact h.elim
      rw [if_pos ok] at h
      refine ⟨(y, refS H' G' js ads' σ' i a), ⟨rx, List.mem_cons_self, refS_pins, hk⟩, _, G', _, R'.intoS ok, ?_⟩
      cases q2 : ys y (e.set i none) with
      | nx e' =>
        rw [q2] at h
        intro ads2 G2 H2 σ2 R2 s2
        exact h _ G2 H2 _ (R'.outS ok hp hpi hjs R2) (s'.trans s2)
      | rt t e => rw [q2] at h; exact h.elim
      | bk e => rw [q2] at h; exact h.elim
      | ct e => rw [q2] at h; exact h.elim
      | bad => rw [q2] at h; exact h.elim
      | exc y e => rw [q2] at h; exact h.elim
    · rw [hy, if_neg Bool.false_ne_true] at h
      exact h ads' G' H' σ' cls d R' s' rx
theorem ts_try (hs : X.stack = X.env :: X.outer) (hf : X.env.frame = some X.env.locals) (hN : X.N.Nodup) (hi : X.N[i]? = some n) (hln : X.env.kindOf n = some .local) (hc : Names X x (.ref (c.C kx))) (tk : Takes X W)
    (hp : r.pins.map Prod.fst = pn) (hpi : pn.contains i = false) (hjs : (pn.all fun j => js.contains j) = true) (hks : ∀ k ∈ ks, PySem.W.exmOne X.K (.ref (c.C k)) (.ref (c.C kx)) = some (yes.contains k))
    (hb : ∀ (W' : WX) (pn' : List (Addr × Obj)) (xe : Value → Shared → Prop), Takes (X.tr pn' xe) W' → PassesOwn (model X.prog X.w) X.A X.env xe → PSs (X.tr pn' xe) body (TSof c r W' xs))
    (hsu : ∀ (a : Addr) (oe : Obj) (cls : Value) (d : Option Addr) (pn' : List (Addr × Obj)) (y : EX) (r' : Ref), Zc cls d oe → (∃ vs, oe.data = .fields vs) → RepX c r'.G0 y cls d r'.H0 → (i, V.ref a, []) ∈ r'.pins → r'.pins.map Prod.fst = i :: js → ks.contains y.k = true → PSs (X.suite a ((a, oe) :: pn')) (b₀ :: suite) (TSof c r' W0 (ys y))) :
    PS X (.Try body [.ExceptHandler (some (.Name x np)) (some n) (b₀ :: suite) pos'] [] [] pos) (TSof c r W (sTry i js ks yes xs ys)) := by
  refine PS.imp (ps_try_as (tb := fun W' => TSof c r W' xs) (ts := tSuite c i js ks ys) hs hf hN hi hln hc tk hb (fun a oe cls d pn' z zf => PSs.ex fun q hq => hsu a oe cls d pn' q.1 q.2 z zf hq.1 hq.2.1 hq.2.2.1 hq.2.2.2)) fun D σ H h => ?_
  refine try_core (wE := wAs X.K (.ref (c.C kx)) i (tSuite c i js ks ys) W D) hp hpi hjs (fun cls d σ' H' y hcls hk h1 h2 => ?_) h
  refine ⟨yes.contains y.k, by rw [hcls]; exact hks _ (List.contains_iff_mem.mp hk), fun b a ha => h1 b a ha, fun b => h2 b⟩
end
/-! ### what is asked of the exception within the suite -/
@[simp] def eXf (y : EX) (f : Str) : EvE := fun env => (ofO (y.fs.lookup f) env).bind fun t e => .ok (.tr t) e
@[simp] def eXi (yes : List Nat) (y : EX) : EvE := fun env => .ok (.tr (.bl (yes.contains y.k))) env
section
variable {X : Cx} {c : TC} {r' : Ref} {a : Addr} {oe : Obj} {cls : Value} {d : Option Addr} {pn' : List (Addr × Obj)} {y : EX} {i : Nat} {ks : List Nat} {e : Expr} {f : Str} {pos : Pos}
theorem pt_xf (hz : Zc cls d oe) (hf : ∃ vs, oe.data = .fields vs) (hx : RepX c r'.G0 y cls d r'.H0) (hm : (i, V.ref a, []) ∈ r'.pins) (hk : ks.contains y.k = true) (T : ∀ k ∈ ks, XfC X.K (c.C k) ∧ PySem.W.findIn X.K (.ref (c.C k)) f = some none)
    (he : PE (X.suite a ((a, oe) :: pn')) e (tVar i)) (hb : attributeBase e f X.env (eval e X.env) = eval e X.env := by rfl) :
    PE (X.suite a ((a, oe) :: pn')) (.Attribute e f pos) (TEof c r' W0 (eXf y f)) := by
  have t := T y.k (List.contains_iff_mem.mp hk)
  refine PE.imp (pe_xf t.1 t.2 hz hf he hb) fun σ H Q h => ?_
  obtain ⟨ads, G, env, R, h⟩ := h
  unfold eXf at h
  rw [Sat_bind, Sat_ofO] at h
  obtain ⟨u, hu, h⟩ := h
  refine ⟨_, (R.pin _ hm).1, rfl, hx.1, ?_⟩
  rcases hx.2 with ⟨z, _⟩ | ⟨dx, gs, hd, hg, rf⟩
  · rw [z] at hu; cases hu
  · have sG : Sub r'.G0 G := R.step.sub
    obtain ⟨v, hv, rv⟩ := rf.lookup hu
    exact ⟨dx, gs, v, hd, R.sub _ _ (sG _ _ hg), hv, h ads G H v R (Nxt.refl ads G H) (Rep.mono sG rv)⟩
end
/-- what an exception's class must say for isinstance -/
structure XiC (K : PySem.W.Frag) (D : Addr) : Prop where
  cl : (PySem.W.clsIn K D).isSome = true
  hg : PySem.W.findIn K (.ref D) "__getattribute__" = some (some (.builtin "BaseException.__getattribute__"))
  hk : PySem.W.findIn K (.ref D) "__getattr__" = some none
  hs : PySem.W.subIn K (.ref D) (.type "BaseException") = some true
  ha : PySem.W.findIn K (.ref D) "__class__" = some (some (.builtin "object.__class__"))
  hn : PySem.W.specialIn K (.builtin "object.__class__") "__get__" = some (some (.builtin "getset_descriptor.__get__"))
  ht : PySem.W.takesIn K (.builtin "object.__class__") = some true
  hm : PySem.W.mroIn K D (.type "object") = some true
def rIsX (K : PySem.W.Frag) (D a : Addr) (d : Option Addr) : List V → Hp → VK → Prop := fun xs H Q => ∃ (z : V) (cv : Value) (b : Bool), xs = [.ref a, z] ∧ (∀ u, RelV z u → u = cv) ∧ (d = none ∨ ∃ dd fs, d = some dd ∧ H dd = some (.xd fs)) ∧ PySem.W.kitOne K (.ref D) cv = some b ∧ Q (.bl b) H
theorem call_isX {X : Cx} {a D : Addr} {oe : Obj} {d : Option Addr} {pn' : List (Addr × Obj)} (T : XiC X.K D) (hz : Zc (.ref D) d oe) (hf : ∃ vs, oe.data = .fields vs) : CallR (X.suite a ((a, oe) :: pn')) (.builtin "isinstance") (rIsX X.K D a d) := by
  intro pins s σ H xs us Q I r h
  obtain ⟨z, cv, b, rfl, hcv, hd, e, q⟩ := h
  cases r with
  | cons rx rr =>
    cases rr with
    | cons rt rr =>
      cases rr
      cases rx
      have ec := hcv _ rt
      subst ec
      have hget := (I.pin (a, oe) (List.mem_append.mpr (.inl List.mem_cons_self))).1
      obtain ⟨vs, hv⟩ := hf
      have J : ∃ od, PySem.W.InstAt s.heap a oe D od := by
        obtain ⟨oc, od, oda, osl⟩ := oe
        obtain ⟨h1, h2⟩ := hz
        dsimp only at h1 h2 hv
        subst h1 h2 hv
        rcases hd with rfl | ⟨dd, fs, rfl, hH⟩
        · exact ⟨none, hget, rfl, rfl, trivial⟩
        · obtain ⟨mA, ⟨o, es, ep, ho, _⟩, _⟩ := I.hok _ _ hH
          exact ⟨some o, hget, rfl, rfl, ho⟩
      obtain ⟨od, J⟩ := J
      exact PySem.W.kia_one (PySem.W.kitx_exc T.cl T.hg T.hk T.hs T.ha T.hn T.ht T.hm) I.kIn J e (fun y => nomatch y) fun tk => ⟨.bl b, H, I.kept (t' := tk) fun _ _ y => y, rfl, q⟩
section
variable {X : Cx} {c : TC} {r' : Ref} {a : Addr} {oe : Obj} {cls : Value} {d : Option Addr} {pn' : List (Addr × Obj)} {y : EX} {i : Nat} {ks yes : List Nat} {e cl : Expr} {p pos : Pos} {v : V} {u : Value}
theorem pt_xi (hz : Zc cls d oe) (hf : ∃ vs, oe.data = .fields vs) (hx : RepX c r'.G0 y cls d r'.H0) (hm : (i, V.ref a, []) ∈ r'.pins) (hk : ks.contains y.k = true) (T : ∀ k ∈ ks, XiC X.K (c.C k)) (hu : ClsV v u) (hq : ∀ k ∈ ks, PySem.W.kitOne X.K (.ref (c.C k)) u = some (yes.contains k))
    (hg : Gl (X.suite a ((a, oe) :: pn')) "isinstance") (hmm : X.mg "isinstance" = none) (he : PE (X.suite a ((a, oe) :: pn')) e (tVar i)) (hcl : PE (X.suite a ((a, oe) :: pn')) cl (tC v))
    (h1 : starEach [e, cl] X.env = (false, eval e X.env) :: starEach [cl] X.env := by rfl) (h2 : starEach [cl] X.env = (false, eval cl X.env) :: starEach [] X.env := by rfl) (hpl : (backTo pos (starEach [cl] X.env)).any (·.1) = false := by rfl) :
    PE (X.suite a ((a, oe) :: pn')) (.Call (.Name "isinstance" p) [e, cl] [] pos) (TEof c r' W0 (eXi yes y)) := by
  have mk := List.contains_iff_mem.mp hk
  refine PE.imp (pe_callB (call_isX (T y.k mk) (by rw [← hx.1]; exact hz) hf) hg hmm boot_isinstance (pa_cons he (pa_cons hcl pa_nil h2) h1) (by decide) (by decide) h1 hpl) fun σ H Q h => ?_
  obtain ⟨ads, G, env, R, h⟩ := h
  refine ⟨_, (R.pin _ hm).1, v, u, yes.contains y.k, rfl, fun w rw => hu.eq rw, ?_, hq y.k mk, h ads G H _ R (Nxt.refl ads G H) (rep_bl (c := c) G)⟩
  rcases hx.2 with ⟨_, z⟩ | ⟨dx, gs, hd, hg', _⟩
  · exact .inl z
  · exact .inr ⟨dx, gs, hd, R.sub _ _ (R.step.sub _ _ hg')⟩
end
end TreeL
end
section
/-! TL26: what a head's look tells of exceptions; fields of listed classes; recursion's ground. -/
namespace TreeL
open PySem PySem.Spec PyProof.Rows L2
/-! ### exceptions' facts as Bools -/
inductive XB where
  | value | index
def XB.name : XB → String
  | .value => "ValueError"
  | .index => "IndexError"
def XB.newId : XB → String
  | .value => "ValueError.__new__"
  | .index => "IndexError.__new__"
def XB.init : XB → String
  | .value => "ValueError.__init__"
  | .index => "IndexError.__init__"
def XB.mro : XB → List Value
  | .value => [.type "ValueError", .type "Exception", .type "BaseException", .type "object"]
  | .index => [.type "IndexError", .type "LookupError", .type "Exception", .type "BaseException", .type "object"]
theorem XB.facts : ∀ b : XB, ExcBaseFacts b.name b.newId b.init b.mro ∧ PySem.W.KxsFacts b.name b.init ∧ PySem.StoreFacts b.name b.mro "object.__setattr__" "object"
  | .value => ⟨PySem.F.excBase_ValueError, PySem.W.kxs_ValueError, PySem.F.store_ValueError⟩
  | .index => ⟨PySem.F.excBase_IndexError, PySem.W.kxs_IndexError, PySem.F.store_IndexError⟩
/-- the addresses that belong to such a class -/
def iniAt (K : PySem.W.Frag) (C : Addr) : Addr := He.ma K C "__init__"
def ccAt (K : PySem.W.Frag) (C : Addr) : Addr := match (TreeX.fdAt K (iniAt K C)).closure with
  | (_, a) :: _ => a
  | [] => 0
def cdaAt (K : PySem.W.Frag) (C : Addr) : Addr := match (TreeX.fdAt K (iniAt K C)).code with
  | .ref a => a
  | _ => 0
def eqS (a b : Option Value) : Bool := match a, b with
  | some x, some y => x == y
  | none, none => true
  | _, _ => false
def hdIn (K : PySem.W.Frag) (C : Addr) : Bool := match PySem.W.clsIn K C with
  | some cd => cd.hasDict
  | none => false
theorem hd_at {K : PySem.W.Frag} {C : Addr} (h : hdIn K C = true) : ∃ cd, PySem.W.clsIn K C = some cd ∧ cd.hasDict = true := by
  unfold hdIn at h
  split at h
  · rename_i cd q
    exact ⟨cd, q, h⟩
  · cases h
section
open PySem.W
def xcB1 (b : XB) (f : Str) (C : Addr) (K : Frag) : Bool :=
  excInitIn K C b.mro b.newId && excOver K C b.mro && He.eqO (findIn K (.ref C) "__init__") (some (some (.ref (iniAt K C)))) && isFn K (.ref (iniAt K C)) && TreeX.isFd K (iniAt K C) &&
  decide ((TreeX.fdAt K (iniAt K C)).closure = [(("__class__" : Str), ccAt K C)]) && TreeX.isStmts (TreeX.fdAt K (iniAt K C)) && decide (TreeX.shapeOf (TreeX.bodyOf (TreeX.fdAt K (iniAt K C))) = some (("self" : Str), f, f))
def xcB2 (f fl : Str) (C : Addr) (K : Frag) : Bool :=
  (TreeX.fdAt K (iniAt K C)).code == .ref (cdaAt K C) && decide ((TreeX.fdAt K (iniAt K C)).globals = mainGlobals) && decide ((TreeX.fdAt K (iniAt K C)).builtins = builtinsNs) && (TreeX.fdAt K (iniAt K C)).defaults == .none && decide (TreeX.parsOf (TreeX.fdAt K (iniAt K C)).params = some [("self" : Str), f]) && (f == "word" || f == "at" || f == "name") &&
  codeIn K (.ref (cdaAt K C)) (TreeX.fdAt K (iniAt K C)).qualname && decide (TreeX.fileIn K (cdaAt K C) = some fl) && eqS (TreeX.cellIn K (ccAt K C)) (some (.ref C)) && hdIn K C
def xcB3 (b : XB) (f : Str) (C : Addr) (K : Frag) : Bool :=
  decide (mroIn K C (.ref C) = some true) && He.eqO (nsIn K mainGlobals "super") (some none) && He.eqO (nsIn K cStatics "thirdparty.any") (some none) && He.eqO (ks_superIn K C C "__init__") (some (some (.builtin b.init))) && decide (subIn K (.ref C) (.type b.name) = some true) && He.eqO (findIn K (.ref C) "__setattr__") (some (some (.builtin "object.__setattr__"))) && He.eqO (takerIn K C f) (some none)
def xcB4 (f : Str) (C : Addr) (K : Frag) : Bool :=
  let sc := (TreeX.fdAt K (iniAt K C)).scope
  decide (sc.names.lookup ("super" : Str) = some .globalImplicit) && decide (sc.names.lookup ("__class__" : Str) = some .free) && decide (sc.names.lookup ("self" : Str) = some .local) && decide (sc.names.lookup f = some .local) && decide (sc.kind = .function) && !sc.isCoroutine && !sc.isGenerator && sc.names.all (fun x => decide (x.2 ≠ .cell))
def xcB5 (C : Addr) (K : Frag) : Bool := keepIn K (.ref C) && decide (subIn K (.ref C) (.type "BaseException") = some true) && eqS (typeIn K (.ref C)) (some (.type "type")) && eqS (typeIn K (.ref (iniAt K C))) (some (.type "function"))
theorem eqS_ok {a b : Option Value} (h : eqS a b = true) : a = b := by
  unfold eqS at h
  split at h
  · rw [eq_of_beq h]
  · rfl
  · cases h
/-- all that raise C(e) asks -/
structure XcAll (P : Program) (K : Frag) (b : XB) (f : Str) (C : Addr) : Prop where
  x : ∃ cd, TreeX.XcF P K b.name b.init b.newId b.mro C (iniAt K C) (ccAt K C) (cdaAt K C) f cd
  k1 : keepIn K (.ref C) = true
  k2 : subIn K (.ref C) (.type "BaseException") = some true
  k3 : typeIn K (.ref C) = some (.type "type")
  k4 : typeIn K (.ref (iniAt K C)) = some (.type "function")
theorem xcAll {P : Program} {K : Frag} {b : XB} {f fl : Str} {C : Addr} (hf : P.main.file = fl) (ht : (P.main.scope.names.lookup ("super" : Str)).isSome = false) (h1 : xcB1 b f C K = true) (h2 : xcB2 f fl C K = true) (h3 : xcB3 b f C K = true) (h4 : xcB4 f C K = true) (h5 : xcB5 C K = true) : XcAll P K b f C := by
  unfold xcB1 at h1
  unfold xcB2 at h2
  unfold xcB3 at h3
  unfold xcB4 at h4
  unfold xcB5 at h5
  simp only [Bool.and_eq_true, decide_eq_true_eq, Bool.not_eq_true', Bool.or_eq_true, beq_iff_eq] at h1 h2 h3 h4 h5
  obtain ⟨⟨⟨⟨⟨⟨⟨a1, a2⟩, a3⟩, a4⟩, a5⟩, a6⟩, a7⟩, a8⟩ := h1
  obtain ⟨⟨⟨⟨⟨⟨⟨⟨⟨b1, b2⟩, b3⟩, b4⟩, b5⟩, b6⟩, b7⟩, b8⟩, b9⟩, b10⟩ := h2
  obtain ⟨⟨⟨⟨⟨⟨c1, c2⟩, c3⟩, c4⟩, c5⟩, c6⟩, c7⟩ := h3
  obtain ⟨⟨⟨⟨⟨⟨⟨d1, d2⟩, d3⟩, d4⟩, d5⟩, d6⟩, d7⟩, d8⟩ := h4
  obtain ⟨⟨⟨e1, e2⟩, e3⟩, e4⟩ := h5
  obtain ⟨cd, q1, q2⟩ := hd_at b10
  obtain ⟨F1, F2, F3⟩ := b.facts
  exact ⟨⟨cd, F1, F2, F3, a1, a2, He.eqO_ok a3, a4, a5, a6, a7, a8, b1, b2, b3, b4, b5, by rcases b6 with (z | z) | z <;> simp [z], b7, by rw [hf]; exact b8, ht, eqS_ok b9, q1, q2, c1, He.eqO_ok c2, He.eqO_ok c3, He.eqO_ok c4, c5, He.eqO_ok c6, He.eqO_ok c7, d1, d2, d3, d4, d5, d6, d7, d8⟩, e1, e2, eqS_ok e3, eqS_ok e4⟩
end
structure X0All (K : PySem.W.Frag) (b : XB) (C : Addr) : Prop where
  q : PySem.W.excIn K C b.mro b.newId = true
  k1 : PySem.W.keepIn K (.ref C) = true
  k2 : PySem.W.subIn K (.ref C) (.type "BaseException") = some true
  k3 : PySem.W.typeIn K (.ref C) = some (.type "type")
def x0B (b : XB) (C : Addr) (K : PySem.W.Frag) : Bool := PySem.W.excIn K C b.mro b.newId && PySem.W.keepIn K (.ref C) && decide (PySem.W.subIn K (.ref C) (.type "BaseException") = some true) && eqS (PySem.W.typeIn K (.ref C)) (some (.type "type"))
theorem x0All {K : PySem.W.Frag} {b : XB} {C : Addr} (h : x0B b C K = true) : X0All K b C := by
  unfold x0B at h
  simp only [Bool.and_eq_true, decide_eq_true_eq] at h
  exact ⟨h.1.1.1, h.1.1.2, h.1.2, eqS_ok h.2⟩
/-! ### except: which classes it takes -/
def exmB (cs : List Str) (ks yes : List Nat) (kx : Nat) (K : PySem.W.Frag) : Bool := ks.all fun k => decide (PySem.W.exmOne K (.ref ((tcN K cs).C k)) (.ref ((tcN K cs).C kx)) = some (yes.contains k))
theorem exmB_ok {cs : List Str} {ks yes : List Nat} {kx : Nat} {K : PySem.W.Frag} (h : exmB cs ks yes kx K = true) : ∀ k ∈ ks, PySem.W.exmOne K (.ref ((tcN K cs).C k)) (.ref ((tcN K cs).C kx)) = some (yes.contains k) := fun k hk => of_decide_eq_true (List.all_eq_true.mp h k hk)
def xfaB (cs : List Str) (ks : List Nat) (f : Str) (K : PySem.W.Frag) : Bool := ks.all fun k => xfB K ((tcN K cs).C k) && He.eqO (PySem.W.findIn K (.ref ((tcN K cs).C k)) f) (some none)
theorem xfaB_ok {cs : List Str} {ks : List Nat} {f : Str} {K : PySem.W.Frag} (h : xfaB cs ks f K = true) : ∀ k ∈ ks, XfC K ((tcN K cs).C k) ∧ PySem.W.findIn K (.ref ((tcN K cs).C k)) f = some none := fun k hk => by
  have z := List.all_eq_true.mp h k hk
  simp only [Bool.and_eq_true] at z
  exact ⟨xfB_ok z.1, He.eqO_ok z.2⟩
def xiB1 (C : Addr) (K : PySem.W.Frag) : Bool := (PySem.W.clsIn K C).isSome && He.eqO (PySem.W.findIn K (.ref C) "__getattribute__") (some (some (.builtin "BaseException.__getattribute__"))) && He.eqO (PySem.W.findIn K (.ref C) "__getattr__") (some none) && decide (PySem.W.subIn K (.ref C) (.type "BaseException") = some true) &&
  He.eqO (PySem.W.findIn K (.ref C) "__class__") (some (some (.builtin "object.__class__"))) && He.eqO (PySem.W.specialIn K (.builtin "object.__class__") "__get__") (some (some (.builtin "getset_descriptor.__get__"))) && decide (PySem.W.takesIn K (.builtin "object.__class__") = some true) && decide (PySem.W.mroIn K C (.type "object") = some true)
def xiB (cs : List Str) (ks : List Nat) (K : PySem.W.Frag) : Bool := ks.all fun k => xiB1 ((tcN K cs).C k) K
theorem xiB_ok {cs : List Str} {ks : List Nat} {K : PySem.W.Frag} (h : xiB cs ks K = true) : ∀ k ∈ ks, XiC K ((tcN K cs).C k) := fun k hk => by
  have z := List.all_eq_true.mp h k hk
  unfold xiB1 at z
  simp only [Bool.and_eq_true, decide_eq_true_eq] at z
  obtain ⟨⟨⟨⟨⟨⟨⟨a1, a2⟩, a3⟩, a4⟩, a5⟩, a6⟩, a7⟩, a8⟩ := z
  exact ⟨a1, He.eqO_ok a2, He.eqO_ok a3, a4, He.eqO_ok a5, He.eqO_ok a6, a7, a8⟩
def kitB (cs : List Str) (ks yes : List Nat) (t : Tgt) (K : PySem.W.Frag) : Bool := ks.all fun k => decide (PySem.W.kitOne K (.ref ((tcN K cs).C k)) (t.val (tcN K cs)) = some (yes.contains k))
theorem kitB_ok {cs : List Str} {ks yes : List Nat} {t : Tgt} {K : PySem.W.Frag} (h : kitB cs ks yes t K = true) : ∀ k ∈ ks, PySem.W.kitOne K (.ref ((tcN K cs).C k)) (t.val (tcN K cs)) = some (yes.contains k) := fun k hk => of_decide_eq_true (List.all_eq_true.mp h k hk)
/-! ### e.f where the classes are listed: ls those that have f, ks those that there are -/
@[simp] def eFl (ls ks : List Nat) (f : Str) (ea : EvE) : EvE := fun env => (ea env).bind fun x e => match look e x with
  | some (.ins k fs) => if (ls.contains k && ks.contains k) = true then (ofO (fs.lookup f) e).bind fun t e => .ok (.tr t) e else .bad
  | _ => .bad
section
variable {X : Cx} {c : TC} {r : Ref} {W : WX} {e : Expr} {ea : EvE} {f : Str} {ls ks : List Nat} {pos : Pos}
theorem pt_fl (hf : ∀ k ∈ ls, ks.contains k = true → Cls X.K (c.C k) ∧ NoAttr X.K (c.C k) f) (he : PE X e (TEof c r W ea)) (hb : attributeBase e f X.env (eval e X.env) = eval e X.env := by rfl) : PE X (.Attribute e f pos) (TEof c r W (eFl ls ks f ea)) := by
  refine PE.imp (pe_fld he hb) fun σ H Q h => ?_
  obtain ⟨ads, G, env, R, h⟩ := h
  refine ⟨ads, G, env, R, Sat_mono (Sat_bind.mp h) (fun x e1 h1 ads1 G1 H1 v1 R1 s1 p1 => ?_) fun _ _ z => z⟩
  cases q : look e1 x with
  | none => simp only [q] at h1; exact h1.elim
  | some t =>
    have w := look_rep R1 p1 q
    cases t with
    | ins k fs =>
      simp only [q] at h1
      by_cases m : (ls.contains k && ks.contains k) = true
      · rw [if_pos m] at h1
        obtain ⟨t, ht, h2⟩ := Sat_ofO.mp (Sat_bind.mp h1)
        obtain ⟨a, dx, gs, rfl, hH, rf⟩ := w
        obtain ⟨u, hu, ru⟩ := rf.lookup ht
        rw [Bool.and_eq_true] at m
        obtain ⟨c1, c2⟩ := hf k (List.contains_iff_mem.mp m.1) m.2
        exact ⟨a, c.C k, dx, gs, u, rfl, hH, c1, c2, hu, h2 ads1 G1 H1 u R1 s1 ru⟩
      · rw [if_neg m] at h1; exact h1.elim
    | _ => simp only [q] at h1; exact h1.elim
end
/-- a def that promises nothing -/
theorem fnG_bad {P : Program} {w : World} {c : TC} {mg : Str → Option Value} {base : Heap} {k : Nat} {f : Addr} {fd : FuncData} {ps : List Str} : FnG P w c.K mg base k f fd ps (spF c ps.length fun _ => .bad) :=
  ⟨spF_len, fun A l st H ar us vs Q E _ _ _ _ h => by
    obtain ⟨_, G, args, adl, _, _, _, _, z⟩ := h
    exact z.elim⟩
end TreeL
namespace TreeL
open PySem PySem.Spec PyProof.Rows L2
theorem pss_bad {X : Cx} {c : TC} {r : Ref} {W : WX} {st : List Stmt} : PSs X st (TSof c r W fun _ => .bad) := ⟨fun pins s σ H D I ⟨_, _, _, _, h⟩ => h.elim⟩
theorem flAll {p q : Nat → Prop} {ls : List Nat} (h : AllP (fun k => q k → p k) ls) : ∀ k ∈ ls, q k → p k := AllP.all h
end TreeL
end
section
/-! TL27: further expressions: xs[::0 - 1], {}.get(k), texts' methods, f-strings, match with a star. -/
namespace TreeL
open PySem PySem.Spec PyProof.Rows L2
section
variable {X : Cx} {c : TC} {r : Ref} {W : WX} {e st : Expr} {ea : EvE} {pos p3 : Pos}
/-- a step that is -1 -/
def MinusOne (X : Cx) (st : Expr) : Prop := PO X (some st) (fun _ H Q => Q (some (-1)) H)
theorem minus_sub {a b p : Pos} {i j : Nat} : MinusOne X (.BinOp (.Constant (.int 0) i a) .Sub (.Constant (.int 1) j b) p) :=
  ⟨fun pins s σ H Q I h => (po_some (pe_op op_sub pe_int pe_int)).run pins s σ H Q I ⟨0, 1, rfl, rfl, -1, rfl, h⟩⟩
theorem pe_rev1 {te : TE} (he : PE X e te) (hst : MinusOne X st) : PE X (.Subscript e (.Slice none none (some st) p3) pos) (tRevL X.K te) := by
  refine ⟨fun pins s σ H Q I h => Subscript_ (thn (he.run pins s σ H _ I h) fun v s1 hv => ?_)⟩
  obtain ⟨x, H1, I1, r1, a, xs, rfl, hx, q⟩ := hv
  cases r1
  refine wpAny_Slice (thn (po_none.run pins s1 σ H1 (fun o H2 => o = none ∧ H2 = H1) I1 ⟨rfl, rfl⟩) fun vl s2 hl => ?_)
  obtain ⟨l, H2, I2, pl, rfl, rfl⟩ := hl
  refine thn (po_none.run pins s2 σ H2 (fun o H3 => o = none ∧ H3 = H2) I2 ⟨rfl, rfl⟩) fun vu s3 hu => ?_
  obtain ⟨u, H3, I3, pu, rfl, rfl⟩ := hu
  refine thn (hst.run pins s3 σ H3 (fun o H4 => o = some (-1) ∧ H4 = H3) I3 ⟨rfl, rfl⟩) fun vs s4 hs => ?_
  obtain ⟨o, H4, I4, ps, rfl, rfl⟩ := hs
  have I5 : Inv X pins σ H4 { s4 with heap := s4.heap.push { cls := .type "slice", data := .fields #[vl, vu, vs] } } := I4.kept (t' := s4.toks) fun _ _ q => Heap.get?_push_of_some _ q
  obtain ⟨its, rr, ht, hz⟩ := I5.list hx
  have hlen := rr.length
  show wpAny (model X.prog X.w) X.A (subscriptTail e (.Slice none none (some st) p3) (.ref a) (.ref s4.heap.objs.size)) (EP X pins σ Q) X.xe _
  refine tail_any (ops := [.ref a, .ref s4.heap.objs.size]) ht.isList.typeIs (PySem.slot_list_getitem.lookup) ?_ (by with_unfolding_all rfl)
  refine wpAny_getItem_list_slice ht.isList (Heap.IsSliceOf.new _ vl vu vs) pl pu ps (by decide) ?_ (by rw [List.size_toArray]; omega)
  rw [PySem.W.krv_pick]
  exact ⟨.ref _, _, I5.laid (t' := s4.toks) (o := .lst xs.reverse) (fun _ _ q => Heap.get?_push_of_some _ q) (Nat.le_refl _) ⟨by rw [List.length_reverse]; exact hz, _, 0, rr.reverse, Heap.get?_push_size _ rfl⟩, rfl, q _ (I5.hok.fresh (Nat.le_refl _))⟩
theorem tr_rev1 (he : PE X e (TEof c r W ea)) (hst : MinusOne X st) : PE X (.Subscript e (.Slice none none (some st) p3) pos) (TRof c r W (rRev ea)) := by
  refine PE.imp (pe_rev1 he hst) fun σ H Q hh => ?_
  obtain ⟨ads, G, env, R, h⟩ := hh
  refine ⟨ads, G, env, R, Sat_mono (Sat_bind.mp h) (fun x e1 h1 ads1 G1 H1 v1 R1 s1 p1 => ?_) fun _ _ z => z⟩
  cases q : look e1 x with
  | none => simp only [q] at h1; exact h1.elim
  | some t =>
    have w := look_rep R1 p1 q
    cases t with
    | lst ts =>
      simp only [q] at h1
      obtain ⟨a, vs, rfl, hx, rr⟩ := w
      exact ⟨a, vs, rfl, .inl (.inl hx), QOut.list (QOut.res R1 s1 h1) rr.reverse⟩
    | _ => simp only [q] at h1; exact h1.elim
/-- {}.get(a written text): None -/
theorem pt_dget0 {x : Str} {j : Nat} {p p1 cpos apos : Pos} (hu : X.A.units + 1 < cLine) (m : M1 X (.Dict [] [] p) "get" apos (.Constant (.str x) j p1) cpos) :
    PE X (.Call (.Attribute (.Dict [] [] p) "get" apos) [.Constant (.str x) j p1] [] cpos) (TEof c r W (eCon .non)) := by
  refine PE.imp (pe_dget1 hu pe_dnewK pe_str m) fun σ H Q h => ?_
  obtain ⟨ads, G, env, R, h⟩ := h
  intro p hp
  refine ⟨p, rfl, .inl ⟨[], .inl upd_same⟩, _, DGet.k (kvs := []) (k := Sum.inr x) upd_same, ?_⟩
  exact h ads G _ _ (R.lay hp) (Nxt.of (Step.allocO R.sub hp)) (rep_non (c := c) G)
end
/-! ### texts -/
theorem strG_cut {x : Str} (h : StrG x) (i j : Nat) : StrG (Builtin.Str.strSub x i j) := by
  have e : Builtin.Str.strSub x i j = ⟨(x.cps.toList.extract i j).toArray⟩ := by
    unfold Builtin.Str.strSub
    congr 1
    apply Array.ext'
    simp [List.extract_eq_take_drop]
  rw [e]
  refine strG_sub h ?_
  rw [List.extract_eq_take_drop]
  exact (List.take_sublist _ _).trans (List.drop_sublist _ _)
theorem removeprefix_strG {x y : Str} (h : StrG x) : StrG (Txt.removeprefix x y) := by
  unfold Txt.removeprefix Txt.affix
  split
  · split
    · exact h
    · exact strG_cut h _ _
  · exact h
def removeprefixM : PV → List PV → Option Arg
  | .str a, [.str b] => if a.length ≤ LIM then some (.t (.str (Txt.removeprefix a b))) else none
  | _, _ => none
def countM : PV → List PV → Option Arg
  | .str a, [.str b] => some (.t (.int (Txt.count a b)))
  | _, _ => none
def partitionM : PV → List PV → Option Arg
  | .str a, [.str b] => if (b.length == 0) = false ∧ a.length ≤ LIM then some (.t (.tup [.str (Txt.partition a b).1, .str (Txt.partition a b).2.1, .str (Txt.partition a b).2.2])) else none
  | _, _ => none
section
variable {X : Cx} {c : TC}
theorem mt_removeprefixM : MtQ X c "str.removeprefix" removeprefixM := fun G H t0 ts t v0 vs Q e s w p q => by
  unfold removeprefixM at e
  split at e
  · obtain ⟨rfl, g⟩ := w
    obtain ⟨v, rfl, rfl, g2⟩ := pair1 p
    obtain ⟨hl, rfl⟩ := ite_some e
    exact ⟨_, mt_removeprefix, _, _, rfl, rfl, lim_line hl, q.t.flat s (rep_str (removeprefix_strG g))⟩
  · cases e
theorem mt_countM : MtQ X c "str.count" countM := fun G H t0 ts t v0 vs Q e s w p q => by
  unfold countM at e
  split at e
  · obtain ⟨rfl, g⟩ := w
    obtain ⟨v, rfl, rfl, g2⟩ := pair1 p
    cases e
    exact ⟨_, mt_count, _, _, rfl, rfl, q.t.flat s rep_int⟩
  · cases e
theorem partition_strG {a b : Str} (h : StrG a) (h2 : StrG b) : StrG (Txt.partition a b).1 ∧ StrG (Txt.partition a b).2.1 ∧ StrG (Txt.partition a b).2.2 := by
  unfold Txt.partition
  have e0 : StrG Str.empty := strG_small (by intro n hn; cases hn) (Nat.zero_le _)
  split
  · exact ⟨strG_cut h _ _, h2, strG_cut h _ _⟩
  · exact ⟨h, e0, e0⟩
theorem mt_partitionM : MtQ X c "str.partition" partitionM := fun G H t0 ts t v0 vs Q e s w p q => by
  unfold partitionM at e
  split at e
  · obtain ⟨rfl, g⟩ := w
    obtain ⟨v, rfl, rfl, g2⟩ := pair1 p
    obtain ⟨hl, rfl⟩ := ite_some e
    obtain ⟨k1, k2, k3⟩ := partition_strG g g2
    exact ⟨_, mt_partition, _, _, rfl, rfl, hl.1, lim_line hl.2, q.t.tup s ⟨_, _, rfl, ⟨rfl, k1⟩, _, _, rfl, ⟨rfl, k2⟩, _, _, rfl, ⟨rfl, k3⟩, rfl⟩⟩
  · cases e
end
/-! ### f-strings -/
@[simp] def eFmt (ea : EvE) : EvE := fun env => (ea env).bind fun x e => match look e x with
  | some (.str y) => .ok (.tr (.str y)) e
  | some (.int i) => if 0 ≤ i ∧ i < 10 ^ 100 then .ok (.tr (.str (Str.ofString (toString i)))) e else .bad
  | _ => .bad
def jF : List EvE → Str → En → RE Str
  | [], acc, env => .ok acc env
  | ea :: r, acc, env => (ea env).bind fun x e => match look e x with
    | some (.str y) => if acc.length + y.length ≤ LIM then jF r (acc ++ y) e else .bad
    | _ => .bad
@[simp] def eJs (evs : List EvE) : EvE := fun env => (jF evs Str.empty env).bind fun out e => .ok (.tr (.str out)) e
inductive PJt (X : Cx) (c : TC) (r : Ref) (W : WX) : List Expr → List EvE → Prop where
  | nil : PJt X c r W [] []
  | cons {e : Expr} {ea : EvE} {es : List Expr} {evs : List EvE} (h : PE X e (TEof c r W ea)) (rest : PJt X c r W es evs) : PJt X c r W (e :: es) (ea :: evs)
theorem add_length (a b : Str) : (a ++ b).length = a.length + b.length := by
  rw [TL.len_tl, TL.tl_append, List.length_append, ← TL.len_tl, ← TL.len_tl]
section
variable {X : Cx} {c : TC} {r : Ref} {W : WX}
theorem PJt.pj {es : List Expr} {evs : List EvE} (h : PJt X c r W es evs) : PJ X es (evs.map (TEof c r W)) := by
  induction h with
  | nil => exact .nil
  | cons h _ ih => exact .cons h ih
theorem pt_fmt {e : Expr} {ea : EvE} {pos : Pos} (he : PE X e (TEof c r W ea)) : PE X (.FormattedValue e (-1) none pos) (TEof c r W (eFmt ea)) := by
  refine PE.imp (pe_fmt he) fun σ H Q hh => ?_
  obtain ⟨ads, G, env, R, h⟩ := hh
  refine ⟨ads, G, env, R, Sat_mono (Sat_bind.mp h) (fun x e1 h1 ads1 G1 H1 v1 R1 s1 p1 => ?_) fun _ _ z => z⟩
  cases q : look e1 x with
  | none => simp only [q] at h1; exact h1.elim
  | some t =>
    have w := look_rep R1 p1 q
    cases t with
    | str y =>
      simp only [q] at h1
      obtain ⟨rfl, g⟩ := w
      exact .inl ⟨y, rfl, g.1, h1 ads1 G1 H1 _ R1 s1 (rep_str (c := c) g G1)⟩
    | int i =>
      simp only [q] at h1
      by_cases hi : 0 ≤ i ∧ i < 10 ^ 100
      · rw [if_pos hi] at h1
        have hw : v1 = .int i := w
        subst hw
        obtain ⟨n, rfl⟩ : ∃ n : Nat, i = n := ⟨i.toNat, by omega⟩
        have hn : n < 10 ^ 100 := by
          have := hi.2
          exact_mod_cast this
        refine .inr ⟨_, rfl, ?_, h1 ads1 G1 H1 _ R1 s1 (rep_str (c := c) (num_strG hn) G1)⟩
        refine Nat.lt_of_le_of_lt ?_ (show 333 < 1920 by decide)
        rw [Int.natAbs_natCast]
        by_cases z : n = 0
        · subst z; decide
        · have : n.log2 < 333 := (Nat.log2_lt z).mpr (Nat.lt_trans hn (by decide))
          omega
      · rw [if_neg hi] at h1; exact h1.elim
    | _ => simp only [q] at h1; exact h1.elim
theorem js_imp {σ : L2.St} : ∀ {evs : List EvE} {acc : Str} {ads0 ads : Nat → List Addr} {G0 H0 G H : Hp} {env : En} {Q : Str → Hp → Prop}, StrG acc → RS c r ads G H σ env → Nxt ads0 G0 H0 ads G H →
    (jF evs acc env).Sat (fun out env' => ∀ ads' G' H', RS c r ads' G' H' σ env' → Nxt ads0 G0 H0 ads' G' H' → StrG out → Q out H') (XC c r W G0 σ) → tJs (evs.map (TEof c r W)) acc σ H Q
  | [], acc, _, _, _, _, _, _, _, _, g, R, s, h => h _ _ _ R s g
  | ea :: evs, acc, ads0, ads, G0, H0, G, H, env, Q, g, R, s, h => by
    show TEof c r W ea σ H _
    refine ⟨ads, G, env, R, ?_⟩
    unfold jF at h
    refine Sat_mono (Sat_bind.mp h) (fun x e1 h1 ads1 G1 H1 v1 R1 s1 p1 => ?_) fun x e z => XC.weak z s.sub
    cases q : look e1 x with
    | none => simp only [q] at h1; exact h1.elim
    | some t =>
      have w := look_rep R1 p1 q
      cases t with
      | str y =>
        simp only [q] at h1
        obtain ⟨rfl, gy⟩ := w
        by_cases hl : acc.length + y.length ≤ LIM
        · rw [if_pos hl] at h1
          exact ⟨y, rfl, by rw [add_length]; exact lim_line hl, js_imp (g.add gy hl) R1 (s.trans s1) h1⟩
        · rw [if_neg hl] at h1; exact h1.elim
      | _ => simp only [q] at h1; exact h1.elim
theorem pt_js {v1 v2 : Expr} {rest : List Expr} {evs : List EvE} {pos : Pos} (h : PJt X c r W (v1 :: v2 :: rest) evs) : PE X (.JoinedStr (v1 :: v2 :: rest) pos) (TEof c r W (eJs evs)) := by
  refine PE.imp (pe_joined h.pj) fun σ H Q hh => ?_
  obtain ⟨ads, G, env, R, z⟩ := hh
  refine js_imp (strG_small (by intro n hn; cases hn) (Nat.zero_le _)) R (Nxt.refl ads G H) (Sat_mono (Sat_bind.mp z) (fun out e1 h1 ads1 G1 H1 R1 s1 g => ?_) fun _ _ y => y)
  exact h1 ads1 G1 H1 _ R1 s1 (rep_str (c := c) g G1)
end
/-! ### match: names, then a starred one -/
section
variable {M : Model} {A : Around} {E : Value → Shared → Prop} {s : Shared} {env : Env}
theorem caps_idx {ps : List Pattern} {xs : List Str} {y : Str} {p : Pos} (h : CapP ps xs) : (ps ++ [Pattern.MatchStar (some y) p]).findIdx? (fun q => q.isStar) = some ps.length := by
  induction h with
  | nil => rfl
  | cons h ih =>
    rw [List.cons_append, List.findIdx?_cons]
    rw [if_neg (show ¬ (Pattern.isStar (.MatchAs none (some _) _) = true) from Bool.false_ne_true), ih]
    rfl
theorem star_pattern {ps : List Pattern} {xs : List Str} {y : Str} {p pos : Pos} {v : Value} {Q : Option (List (Str × Value)) → Shared → Prop} (h : CapP ps xs) (h0 : ps ≠ [])
    (q : wpAny M A (collectionFlag true v) (fun b s₁ => b = true ∧ wpAny M A (pyLen v) (fun m s₂ => if m < (ps.length : Int) then Q none s₂ else
      wpAny M A (unpackItems v (ps.length + 1) (some ps.length)) (fun vs s₃ => wpAny M A (matchEach (ps ++ [.MatchStar (some y) p]) env vs) Q E s₃) E s₂) E s₁) E s) :
    wpAny M A (matchPattern (.MatchSequence (ps ++ [.MatchStar (some y) p]) pos) env v) Q E s := by
  rw [arm_matchPattern_MatchSequence]
  refine wpAny_bind (wpAny_standAt (wpAny_bind (wpAny_mono q (fun b s₁ h₁ => ?_) fun _ _ z => z)))
  obtain ⟨rfl, h₁⟩ := h₁
  have e1 := caps_idx (y := y) (p := p) h
  have e2 : (ps ++ [Pattern.MatchStar (some y) p]).length = ps.length + 1 := by simp
  have e3 : ((ps ++ [Pattern.MatchStar (some y) p]).all fun p => p.isWildcard || (p.isStar && p.names.isEmpty)) = false := by
    rw [List.all_append]
    simp [Pattern.isWildcard, Pattern.isStar, Pattern.names]
  have e4 : (ps ++ [Pattern.MatchStar (some y) p])[ps.length]? = some (Pattern.MatchStar (some y) p) := by simp
  have hlen : 0 < ps.length := List.length_pos_iff.mpr h0
  have e5 : (ps.length + 1 > 1) = True := eq_true (by omega)
  simp only [e1, e2, e3, e4, e5, Bool.not_true, Bool.false_eq_true, if_false, if_true, Option.elim, Pattern.names]
  refine wpAny_bind (wpAny_mono h₁ (fun m s₂ h₂ => ?_) fun _ _ z => z)
  have e6 : ((ps.length + 1 : Nat) : Int) - 1 = (ps.length : Int) := by omega
  by_cases hm : m < (ps.length : Int)
  · rw [if_pos hm] at h₂
    rw [if_pos (by rw [e6]; exact hm)]
    exact wpAny_pure h₂
  · rw [if_neg hm] at h₂
    rw [if_neg (by rw [e6]; exact hm)]
    rw [if_neg (by simp)]
    exact wpAny_bind h₂
end
section
variable {X : Cx} {c : TC} {r : Ref} {W : WX} {cs : EvC} {rest : List MatchCase} {p p1 : Pos} {is : List Nat} {j : Nat} {xs : List Str} {y : Str} {ps : List Pattern} {body : List Stmt} {gd : EvT} {ys : EvS}
theorem tm_star {guard : Option Expr} (hc : X.calm = true) (hN : X.N.Nodup) (hcap : CapP ps xs) (h0 : ps ≠ []) (hl : is.length = xs.length) (hq : ∀ q ∈ (is ++ [j]).zip (xs ++ [y]), X.N[q.1]? = some q.2 ∧ X.env.scope.names.lookup q.2 = some .local ∧ (r.pins.map Prod.fst).contains q.1 = false)
    (hgd : GdOk X c r W guard gd) (hb : PSs X body (TSof c r W ys)) (hr : PMs X c r W rest cs) : PMs X c r W (⟨.MatchSequence (ps ++ [Pattern.MatchStar (some y) p1]) p, guard, body⟩ :: rest) (cStar is.length (is ++ [j]) gd ys cs) := ⟨fun first pins st σ H D v u t ads G env I rv R rp h => by
  refine wpAny_matchCases_cons ?_
  have hpl := hcap.length
  cases t with
  | lst ts =>
    have rp0 := rp
    simp only [Rep] at rp
    obtain ⟨a, vs, rfl, hx, rr⟩ := rp
    cases rv
    obtain ⟨its, rvs, hli, hz⟩ := I.list (.inl (.inl (R.sub _ _ hx)))
    have hsz : its.toArray.size = ts.length := by rw [List.size_toArray, ← rvs.length, rr.length]
    have hfit : (its.toArray.size : Int) < 2 ^ 63 := by have := line63; rw [List.size_toArray, ← rvs.length]; omega
    have I1 : Inv X pins σ H { st with toks := st.toks + 1 + 1 } := I.tok _
    have h' : (if is.length ≤ ts.length then (gd (setsE (is ++ [j]) (ts.take is.length ++ [.lst (ts.drop is.length)]) env)).so fun b e => if b then ys e else cs (.lst ts) e else cs (.lst ts) env).Sat (Kof c r W G D) := h
    have hk : ps.length = is.length := by rw [hpl, hl]
    refine star_pattern hcap h0 (wpAny_collectionFlag hli.isList.typeIs flag_seq_list ⟨rfl, pyLen_list hli.isList hfit ?_⟩)
    by_cases l : is.length ≤ ts.length
    · rw [if_pos l] at h'
      rw [if_neg (by rw [hsz, hk]; omega), hk]
      refine unpack_str (I.ok.hd hc) (by exact hli.isList) (by rw [hsz]; exact l) (by rw [List.size_toArray, ← rvs.length]; exact hz) fun s' kp e1 e2 e3 => ?_
      have I2 : Inv X pins σ H s' := by
        obtain ⟨hp, g, d, tk, os⟩ := s'
        dsimp only at e1 e2 e3
        subst e1 e2 e3
        exact I1.kept (t' := tk) kp
      have hn : H s'.heap.objs.size = none := I2.hok.fresh (Nat.le_refl _)
      have I3 : Inv X pins σ (upd H s'.heap.objs.size (.lst (vs.drop is.length))) { s' with heap := s'.heap.push { cls := .type "list", data := .seq (its.drop is.length).toArray } } :=
        I2.laid (t' := s'.toks) (a := s'.heap.objs.size) (o := .lst (vs.drop is.length)) (fun _ _ q => Heap.get?_push_of_some _ q) (Nat.le_refl _) ⟨by rw [List.length_drop]; exact Nat.le_trans (Nat.sub_le _ _) hz, _, 0, rvs.drop _, Heap.get?_push_size _ rfl⟩
      have st3 : Step [] H G (upd H s'.heap.objs.size (.lst (vs.drop is.length))) (upd G s'.heap.objs.size (.lst (vs.drop is.length))) := Step.alloc R.sub hn
      have R3 := R.next st3
      have rr3 : RepL c (upd G s'.heap.objs.size (.lst (vs.drop is.length))) (ts.take is.length ++ [.lst (ts.drop is.length)]) (vs.take is.length ++ [.ref s'.heap.objs.size]) :=
        ((rr.take _).mono st3.sub).append (RepL.one ⟨_, _, rfl, upd_same, (rr.drop _).mono st3.sub⟩)
      have rv3 : Vals (vs.take is.length ++ [.ref s'.heap.objs.size]) (its.take is.length ++ [.ref s'.heap.objs.size]) := (rvs.take _).append (.cons rfl .nil)
      have lt : (its.take is.length).length = xs.length := by rw [List.length_take, ← rvs.length, rr.length, hl]; omega
      refine each_star hcap lt ?_
      have lz : (its.take is.length ++ [Value.ref s'.heap.objs.size]).length = (xs ++ [y]).length := by simp [lt]
      have zz : xs.zip (its.take is.length) ++ [(y, Value.ref s'.heap.objs.size)] = (xs ++ [y]).zip (its.take is.length ++ [Value.ref s'.heap.objs.size]) := by
        rw [List.zip_append lt.symm]; rfl
      rw [show (xs.zip (List.take is.length its) ++ [(y, Value.ref s'.heap.objs.size)]) = _ from zz]
      refine bind_caps hN hq (by simp [hl]) lz I3 rv3 R3 rr3 fun s2 σ2 ads2 I4 R4 => ?_
      exact case_go hgd hb hr I4 (show RelV (.ref a) (.ref a) from rfl) R4 (Rep.mono st3.sub rp0) (Kof.weak st3.sub h')
    · rw [if_neg l] at h'
      rw [if_pos (by rw [hsz, hk]; omega)]
      exact hr.run false pins _ σ H D _ _ (.lst ts) ads G env I1 (show RelV (.ref a) (.ref a) from rfl) R rp0 h'
  | _ => exact h.elim⟩
end
end TreeL
end
section
/-! TL28: list.index. -/
namespace TreeL
open PySem PySem.Spec PyProof.Rows L2
def indexM : PV → List PV → Option Arg
  | .lst xs, [k] => if dat 63 k && datL 63 xs then (xs.findIdx? fun z => peq z k).map fun j => .t (.int (j : Nat)) else none
  | _, _ => none
section
variable {X : Cx} {c : TC}
theorem mt_indexM (hK : X.K = c.K) (hu : X.A.units + 65 < cLine) : MtQ X c "list.index" indexM := fun G H t0 ts t v0 vs Q e s w p q => by
  unfold indexM at e
  split at e
  · rename_i xs k
    obtain ⟨v, rfl, w2⟩ := pair1 p
    obtain ⟨hd, e⟩ : (dat 63 k && datL 63 xs) = true ∧ (xs.findIdx? fun z => peq z k).map (fun j => Arg.t (.int (j : Nat))) = some t := by split at e; exact ⟨by assumption, e⟩; cases e
    rw [Bool.and_eq_true] at hd
    obtain ⟨j, hj, rfl⟩ := map_some e
    obtain ⟨b1, b2⟩ := (w.rep s).shape (t := .lst xs) (by rw [dat]; exact hd.2)
    obtain ⟨a1, a2⟩ := (w2.rep s).shape (dat_mono (by omega) hd.1)
    obtain ⟨p0, vs0, rfl, _⟩ := w
    rw [toD] at b1 b2
    obtain ⟨lt, hz, hno⟩ := List.findIdx?_eq_some_iff_getElem.mp hj
    have dz : ∀ (m : Nat) (hm : m < xs.length), dat 63 xs[m] = true := fun m hm => by
      have := hd.2
      rw [datL_all, List.all_eq_true] at this
      exact this _ (List.getElem_mem hm)
    refine ⟨_, mt_indexD hu, p0, v, toD k, toDs xs, j, toD xs[j], rfl, rfl, by rw [hK]; exact b1, by rw [hK]; exact a1, b2, a2, ?_, ?_, fun m z' hm hz' => ?_, q.t.flat s rep_int⟩
    · rw [toDs_map, List.getElem?_map, List.getElem?_eq_getElem lt]; rfl
    · rw [peq_eqv (dz j lt) hd.1]; exact hz
    · rw [toDs_map, List.getElem?_map] at hz'
      have hmx : m < xs.length := by omega
      rw [List.getElem?_eq_getElem hmx] at hz'
      cases hz'
      rw [peq_eqv (dz m hmx) hd.1]
      simpa using hno m hm
  · cases e
end
end TreeL
end
section
/-! TL29: dict comprehensions, len of a dict, except without a name. -/
namespace TreeL
open PySem PySem.Spec PyProof.Rows L2
def keyOf : PV → Option Key
  | .int i => some (.inl i)
  | .str x => some (.inr x)
  | _ => none
def putP (kvs : List (PV × PV)) (k v : PV) : List (PV × PV) :=
  if (kvs.any fun kv => PV.beq kv.1 k) = true then kvs.map (fun kv => if PV.beq kv.1 k = true then (kv.1, v) else kv) else kvs ++ [(k, v)]
def compD (g : Tg) (et : EvT) (ek ea : EvE) (vs : List Nat) (al : En → Bool) : List PV → List (PV × PV) → En → RE (List (PV × PV))
  | [], acc, env => if al env then .ok acc env else .bad
  | t :: ts, acc, env => if al env then (match g t env with
    | none => .bad
    | some e1 => match et e1 with
      | .ok b e2 => if b then (match ek e2 with
          | .ok (.tr k) e3 => (match keyOf k with
            | some _ => (match ea e3 with
              | .ok (.tr x) e4 => if acc.length < LIM then compD g et ek ea vs al ts (putP acc k x) (wipeE e4 vs) else .bad
              | _ => .bad)
            | none => .bad)
          | _ => .bad) else compD g et ek ea vs al ts acc (wipeE e2 vs)
      | _ => .bad) else .bad
@[simp] def fDcmp (ev : EvI) (g : Tg) (et : EvT) (ek ea : EvE) (vs : List Nat) : EvF := fun env => (ev env).bind fun (w : Wk) e0 =>
  if noOwn e0 vs then (match compD g et ek ea vs (alive w.at_ w.ts) w.ts [] (wipeE e0 vs) with
    | .ok acc e1 => .ok (.dct false acc) (unW e0 e1 vs)
    | _ => .bad) else .bad
theorem keyP_inj {q k : Key} (h : keyP q = keyP k) : q = k := by
  cases q <;> cases k <;> simp [keyP] at h <;> rw [h]
theorem beq_key (q k : Key) : PV.beq (keyP q) (keyP k) = decide (q = k) := by
  cases h : PV.beq (keyP q) (keyP k) with
  | true => exact (decide_eq_true (keyP_inj (PV.beq_eq h))).symm
  | false =>
    symm
    rw [decide_eq_false_iff_not]
    intro e
    rw [e, PV.beq_self] at h
    cases h
section
variable {c : TC} {G : Hp}
theorem keyOf_rep {t : PV} {k : Key} {v : V} (h : keyOf t = some k) (p : Rep c G t v) : v = kV k ∧ t = keyP k := by
  cases t with
  | int i => cases h; exact ⟨p, rfl⟩
  | str x => cases h; exact ⟨p.1, rfl⟩
  | _ => cases h
theorem RepK.len : ∀ {kvs : List (PV × PV)} {ks : List (Key × V)}, RepK c G kvs ks → ks.length = kvs.length
  | [], _, h => by rw [show _ = _ from h]; rfl
  | (_, _) :: r, _, h => by
    obtain ⟨q, v, s, rfl, _, _, hr⟩ := h
    rw [List.length_cons, List.length_cons, RepK.len hr]
theorem RepK.any {k : Key} : ∀ {kvs : List (PV × PV)} {ks : List (Key × V)}, RepK c G kvs ks → (ks.any fun kv => decide (kv.1 = k)) = kvs.any fun kv => PV.beq kv.1 (keyP k)
  | [], _, h => by rw [show _ = _ from h]; rfl
  | (_, _) :: r, _, h => by
    obtain ⟨q, v, s, rfl, rfl, _, hr⟩ := h
    rw [List.any_cons, List.any_cons, RepK.any hr, beq_key]
theorem RepK.mapped {k : Key} {x : PV} {v : V} (p : Rep c G x v) : ∀ {kvs : List (PV × PV)} {ks : List (Key × V)}, RepK c G kvs ks → RepK c G (kvs.map fun kv => if PV.beq kv.1 (keyP k) = true then (kv.1, x) else kv) (ks.map fun kv => if kv.1 = k then (kv.1, v) else kv)
  | [], _, h => by rw [show _ = _ from h]; rfl
  | (_, y) :: r, _, h => by
    obtain ⟨q, u, s, rfl, rfl, hy, hr⟩ := h
    have ih := RepK.mapped (k := k) p hr
    rw [List.map_cons, List.map_cons]
    by_cases e : q = k
    · have b : PV.beq (keyP q) (keyP k) = true := by rw [beq_key]; exact decide_eq_true e
      simp only [b, if_true, if_pos e]
      exact ⟨q, v, _, rfl, rfl, p, ih⟩
    · have b : PV.beq (keyP q) (keyP k) = false := by rw [beq_key]; exact decide_eq_false e
      simp only [b, Bool.false_eq_true, if_false, if_neg e]
      exact ⟨q, u, _, rfl, rfl, hy, ih⟩
theorem RepK.snoc {k : Key} {x : PV} {v : V} (p : Rep c G x v) : ∀ {kvs : List (PV × PV)} {ks : List (Key × V)}, RepK c G kvs ks → RepK c G (kvs ++ [(keyP k, x)]) (ks ++ [(k, v)])
  | [], _, h => by rw [show _ = _ from h]; exact ⟨k, v, [], rfl, rfl, p, rfl⟩
  | (_, _) :: r, _, h => by
    obtain ⟨q, u, s, rfl, rfl, hy, hr⟩ := h
    exact ⟨q, u, _, rfl, rfl, hy, RepK.snoc p hr⟩
theorem RepK.put {k : Key} {x : PV} {v : V} {kvs : List (PV × PV)} {ks : List (Key × V)} (h : RepK c G kvs ks) (p : Rep c G x v) : RepK c G (putP kvs (keyP k) x) (putK ks k v) := by
  unfold putP putK
  rw [h.any]
  split
  · exact h.mapped p
  · exact h.snoc p
end
section
variable {X : Cx} {c : TC} {r : Ref} {W : WX}
def compEndD (e0 : En) (vs : List Nat) (x : RE (List (PV × PV))) : RE OS := match x with
  | .ok acc e1 => .ok (.dct false acc) (unW e0 e1 vs)
  | _ => .bad
/-- the reading of a comprehension -/
theorem dc_imp {ev : EvI} {us vs : List Nat} {g : Tg} {et : EvT} {ek ea : EvE} (hp : ∀ j ∈ vs, (r.pins.map Prod.fst).contains j = false) (hu : ∀ j ∈ us, j ∈ vs) {σ : L2.St} {H : Hp} {Q : VK} (h : TFof c r W (fDcmp ev g et ek ea vs) σ H Q) :
    tDc (TIof c r W ev) (TGof c r us g) (TTof c r W0 et) (TEof c r W0 ek) (TEof c r W0 ea) vs σ H Q := by
  obtain ⟨ads, G, env, R, h⟩ := h
  refine ⟨ads, G, env, R, Sat_mono (Sat_bind.mp h) (fun w e0 h1 ads1 G1 H1 J R1 s1 it D hD => ?_) fun _ _ z => z⟩
  obtain ⟨ts, at_⟩ := w
  by_cases no : noOwn e0 vs = true
  rotate_left
  · rw [if_neg no] at h1; exact h1.elim
  rw [if_pos no] at h1
  have h1 : (compEndD e0 vs (compD g et ek ea vs (alive at_ ts) ts [] (wipeE e0 vs))).Sat _ _ := h1
  have Ri := (R1.lay (ho := .dK []) hD).wipes hp
  have nw := New.of R1 hD
  have hx0 : Hx D ads1 G1 H1 (cutA ads1 vs) G1 (upd H1 D (.dK [])) :=
    (Hx.put ⟨Sub.refl _, fun a o n e m => ⟨e, m, id⟩, fun a n e => e⟩).less cutA_sub
  refine ⟨fun i m H' => m = ts.length - i ∧ ∃ ads' G' env' acc va, RS c r ads' G' H' (wipe σ vs) env' ∧ Hx D ads1 G1 H1 ads' G' H' ∧ H' D = some (.dK va) ∧ RepK c G' acc va ∧ New r ads' G' D ∧
    (compEndD e0 vs (compD g et ek ea vs (alive at_ ts) (ts.drop i) acc env')).Sat (fun o env' => ∀ ads' G' H' p ad, RS c r ads' G' H' σ env' → Nxt ads G H ads' G' H' → OwRep c G' H' p ad o → (∀ a ∈ ad, New r ads' G' a ∧ H a = none) → Q (.ref p) H') (XC c r W G σ),
    ⟨_, rfl, cutA ads1 vs, G1, _, [], [], Ri, hx0, upd_same, rfl, ⟨nw.1, nw.2.1, fun j m => nw.2.2 j (cutA_sub j D m)⟩, h1⟩, ?_⟩
  rintro i m H2 ⟨rfl, ads2, G2, env2, acc, va, R2, s2, hDa, ra, nw2, h2⟩
  by_cases al : alive at_ ts env2 = true
  rotate_left
  · cases q : ts.drop i with
    | nil => rw [q, compD, if_neg al] at h2; exact h2.elim
    | cons t us => rw [q, compD, if_neg al] at h2; exact h2.elim
  obtain ⟨go, stop⟩ := it i ads2 G2 H2 _ env2 R2 s2.sub al
  cases q : ts[i]? with
  | none =>
    have hl : ts.length ≤ i := List.getElem?_eq_none_iff.mp q
    rw [List.drop_eq_nil_of_le hl, compD, if_pos al] at h2
    have sB := s2.nxt hD
    have RB := R1.back no R2 sB hp
    exact .inl ⟨stop hl, h2 (cutA ads2 vs) G2 H2 D [D] RB (s1.trans (sB.less cutA_sub)) ⟨rfl, .inl ⟨rfl, va, hDa, ra⟩⟩ fun a ha => by rw [List.mem_singleton.mp ha]; exact ⟨⟨nw2.1, nw2.2.1, fun j m => nw2.2.2 j (cutA_sub j D m)⟩, s1.there D hD⟩⟩
  | some t =>
    obtain ⟨g1, g2⟩ := go t q
    have hlt : i < ts.length := (List.getElem?_eq_some_iff.mp q).1
    have hd : ts.drop i = t :: ts.drop (i + 1) := by
      rw [List.drop_eq_getElem_cons hlt, (List.getElem?_eq_some_iff.mp q).2]
    rw [hd, compD, if_pos al] at h2
    refine .inr ⟨g1, fun H' => ∃ ads' G' env' acc va, RS c r ads' G' H' (wipe σ vs) env' ∧ Hx D ads1 G1 H1 ads' G' H' ∧ H' D = some (.dK va) ∧ RepK c G' acc va ∧ New r ads' G' D ∧
      (compEndD e0 vs (compD g et ek ea vs (alive at_ ts) (ts.drop (i + 1)) acc env')).Sat (fun o env' => ∀ ads' G' H' p ad, RS c r ads' G' H' σ env' → Nxt ads G H ads' G' H' → OwRep c G' H' p ad o → (∀ a ∈ ad, New r ads' G' a ∧ H a = none) → Q (.ref p) H') (XC c r W G σ), fun H' w => ⟨_, by omega, rfl, w⟩, fun x H' y => ?_⟩
    obtain ⟨G3, st, rx⟩ := g2 x H' y
    have R3 := R2.next st
    have x3 := s2.step (Nxt.of (ads := ads2) st)
    have dD := (Nxt.of (ads := ads2) st).hold D _ hDa nw2.2.2
    have nw3 : New r ads2 G3 D := ⟨dD.2.2 nw2.1, nw2.2.1, dD.2.1⟩
    cases qg : g t env2 with
    | none => rw [qg] at h2; exact h2.elim
    | some e3 =>
      rw [qg] at h2
      refine ⟨ads2, G3, env2, t, e3, R3, rx, qg, fun ads4 σ4 R4 l4 a4 b4 c4 => ?_⟩
      have sub4 : ∀ j a, a ∈ ads4 j → a ∈ ads2 j := fun j a m => by
        by_cases z : j ∈ us
        · rcases c4 j z with w | w
          · rw [w] at m; cases m
          · rw [w] at m; exact m
        · rw [b4 j z] at m; exact m
      have hw : wipe σ4 vs = wipe σ vs := wipe_same (fun j hj => a4 j fun z => hj (hu j z)) (by rw [l4, wipe_length])
      refine ⟨hw, ads4, G3, e3, R4, ?_⟩
      have x4 := x3.less sub4
      have nw4 : New r ads4 G3 D := ⟨nw3.1, nw3.2.1, fun j m => nw3.2.2 j (sub4 j D m)⟩
      simp only at h2
      cases qt : et e3 with
      | bad => rw [qt] at h2; exact h2.elim
      | exc x e => rw [qt] at h2; exact h2.elim
      | ok b e4 =>
        rw [qt] at h2
        simp only at h2
        intro ads5 G5 H5 R5 s5
        have x5 := x4.step s5
        have d5 := s5.hold D _ dD.1 nw4.2.2
        have nw5 : New r ads5 G5 D := ⟨d5.2.2 nw4.1, nw4.2.1, d5.2.1⟩
        have ra5 := ra.mono (st.sub.trans s5.sub)
        cases b with
        | false =>
          refine iteF ⟨cutA ads5 vs, G5, _, acc, va, ?_, x5.less cutA_sub, d5.1, ra5, ⟨nw5.1, nw5.2.1, fun j m => nw5.2.2 j (cutA_sub j D m)⟩, h2⟩
          have R6 := R5.wipes hp
          rw [hw] at R6
          exact R6
        | true =>
          refine iteT ⟨ads5, G5, e4, R5, ?_⟩
          simp only [if_true] at h2
          cases qe : ek e4 with
          | bad => rw [qe] at h2; exact h2.elim
          | exc x e => rw [qe] at h2; exact h2.elim
          | ok x e5 =>
            rw [qe] at h2
            cases x with
            | sl j => exact h2.elim
            | tr tx =>
              simp only at h2
              cases qk : keyOf tx with
              | none => rw [qk] at h2; exact h2.elim
              | some kk =>
                rw [qk] at h2
                simp only at h2
                intro ads6 G6 H6 v6 R6 s6 p6
                have x6 := x5.step s6
                have d6 := s6.hold D _ d5.1 nw5.2.2
                have nw6 : New r ads6 G6 D := ⟨d6.2.2 nw5.1, nw5.2.1, d6.2.1⟩
                have ra6 := ra5.mono s6.sub
                refine ⟨ads6, G6, e5, R6, ?_⟩
                cases qv : ea e5 with
                | bad => rw [qv] at h2; exact h2.elim
                | exc x e => rw [qv] at h2; exact h2.elim
                | ok x e6 =>
                  rw [qv] at h2
                  cases x with
                  | sl j => exact h2.elim
                  | tr ty =>
                    simp only at h2
                    by_cases hl : acc.length < LIM
                    rotate_left
                    · rw [if_neg hl] at h2; exact h2.elim
                    rw [if_pos hl] at h2
                    intro ads7 G7 H7 v7 R7 s7 p7
                    have x7 := x6.step s7
                    have d7 := s7.hold D _ d6.1 nw6.2.2
                    have nw7 : New r ads7 G7 D := ⟨d7.2.2 nw6.1, nw6.2.1, d7.2.1⟩
                    have ra7 := ra6.mono s7.sub
                    obtain ⟨ek1, ek2⟩ := keyOf_rep qk p6
                    refine ⟨va, kk, ek1, d7.1, by rw [ra.len]; exact Nat.lt_of_lt_of_le hl (lim_line (Nat.le_refl _)), cutA ads7 vs, G7, _, putP acc tx ty, putK va kk v7, ?_, x7.put.less cutA_sub, upd_same, ?_, ⟨nw7.1, nw7.2.1, fun j m => nw7.2.2 j (cutA_sub j D m)⟩, h2⟩
                    · have R8 := (R7.scratch (ho' := .dK (putK va kk v7)) nw7 d7.1).wipes hp
                      rw [hw] at R8
                      exact R8
                    · rw [ek2]; exact ra7.put p7
end
section
variable {X : Cx} {c : TC} {r : Ref} {W : WX} {kx vx tg iter : Expr} {ifs : List Expr} {scope : Scope} {own : List (Str × Nat)} {pos : Pos} {ev : EvI} {us : List Nat} {g : Tg} {et : EvT} {ek ea : EvE}
theorem pf_dc (hc : X.calm = true) (hN : X.N.Nodup) (hp : ∀ j ∈ own.map (·.2), (r.pins.map Prod.fst).contains j = false) (hu : ∀ j ∈ us, j ∈ own.map (·.2)) (hi : PI X tg iter (TIof c r W ev)) (ok : BlkOk X.N X.env.scope scope own)
    (hg : ∀ (s : Shared) (H : Hp) (C : Addr) (cl : List (Str × Addr)) (fp : List Addr), PG (X.blk s H scope (compEnvC scope cl C X.env) fp) tg (TGof c r us g)) (ht : ∀ (s : Shared) (H : Hp) (C : Addr) (cl : List (Str × Addr)) (fp : List Addr), PTs (X.blk s H scope (compEnvC scope cl C X.env) fp) ifs (TTof c r W0 et))
    (hk : ∀ (s : Shared) (H : Hp) (C : Addr) (cl : List (Str × Addr)) (fp : List Addr), PE (X.blk s H scope (compEnvC scope cl C X.env) fp) kx (TEof c r W0 ek)) (he : ∀ (s : Shared) (H : Hp) (C : Addr) (cl : List (Str × Addr)) (fp : List Addr), PE (X.blk s H scope (compEnvC scope cl C X.env) fp) vx (TEof c r W0 ea))
    (hs : ∀ x, foldedSetIterable iter X.env x = pure x := by intro _; rfl) :
    PE X (.DictComp kx vx [⟨tg, iter, ifs, 0⟩] scope pos) (TFof c r W (fDcmp ev g et ek ea (own.map (·.2)))) := PE.imp (pe_dc hc hN hi ok hg ht hk he hs) fun _ _ _ h => dc_imp hp hu h
end
/-! ### len of a dict -/
def lenFD : List PV → Option Arg
  | [.dct false kvs] => some (.t (.int kvs.length))
  | _ => none
section
variable {X : Cx} {c : TC}
theorem bu_lenD (hK : X.K = c.K) : CallQ X c (.builtin "len") lenFD := fun G H ts t vs Q e s p q => by
  unfold lenFD at e
  split at e
  · obtain ⟨v, rfl, a, rfl, hx⟩ := pair1 p
    cases e
    rcases hx with ⟨_, ks, hx, rk⟩ | ⟨z, _⟩
    · exact ⟨_, call_lenD, a, ks, rfl, hx, by rw [rk.len]; exact q.t.flat s rep_int⟩
    · cases z
  · cases e
end
/-! ### except without a name -/
@[simp] def sTry0 (ks yes : List Nat) (body suite : EvS) : EvS := fun env => match body env with
  | .exc x e => if ks.contains x.k then (if yes.contains x.k then (match suite e with
      | .exc _ _ => .bad
      | o => o) else .exc x e) else .bad
  | o => o
section
variable {X : Cx} {c : TC} {r : Ref} {W : WX} {xs ys : EvS} {kx : Nat} {ks yes : List Nat} {body suite : List Stmt} {b₀ : Stmt} {x : Str} {np pos pos' : Pos}
theorem ts_try0 (hs : X.stack = X.env :: X.outer) (hf : X.env.frame = some X.env.locals) (hc : Names X x (.ref (c.C kx))) (tk : Takes X W)
    (hks : ∀ k ∈ ks, PySem.W.exmOne X.K (.ref (c.C k)) (.ref (c.C kx)) = some (yes.contains k))
    (hb : ∀ (W' : WX) (pn' : List (Addr × Obj)) (xe : Value → Shared → Prop), Takes (X.tr pn' xe) W' → PassesOwn (model X.prog X.w) X.A X.env xe → PSs (X.tr pn' xe) body (TSof c r W' xs))
    (hsu : ∀ (a : Addr) (oe : Obj) (cls : Value) (d : Option Addr) (pn' : List (Addr × Obj)), Zc cls d oe → (∃ vs, oe.data = .fields vs) → PSs (X.suite a ((a, oe) :: pn')) (b₀ :: suite) (TSof c r W0 ys)) :
    PS X (.Try body [.ExceptHandler (some (.Name x np)) none (b₀ :: suite) pos'] [] [] pos) (TSof c r W (sTry0 ks yes xs ys)) := by
  refine PS.imp (ps_try_only (tb := fun W' => TSof c r W' xs) (ts := fun _ _ _ => TSof c r W0 ys) hs hf hc tk hb hsu) fun D σ H h => ?_
  obtain ⟨ads, G, env, R, h⟩ := h
  refine ⟨ads, G, env, R, ?_⟩
  unfold sTry0 at h
  cases q : xs env with
  | nx e => rw [q] at h; exact h
  | rt t e => rw [q] at h; exact h
  | bk e => rw [q] at h; exact h
  | ct e => rw [q] at h; exact h
  | bad => rw [q] at h; exact h
  | exc y e =>
    rw [q] at h
    dsimp only at h
    intro ads' G' H' σ' cls d R' s' rx
    by_cases hk : ks.contains y.k = true
    rotate_left
    · rw [if_neg hk] at h; exact h.elim
    rw [if_pos hk] at h
    refine ⟨yes.contains y.k, by rw [rx.1]; exact hks _ (List.contains_iff_mem.mp hk), fun hy a ha => ?_, fun hy => ?_⟩
    · rw [if_pos hy] at h
      refine ⟨ads', G', e, R', ?_⟩
      cases q2 : ys e with
      | nx e' => rw [q2] at h; have h' : (SO.nx e').Sat (Kof c r W0 G D) := h; exact Kof.weak s' h'
      | rt t e' => rw [q2] at h; have h' : (SO.rt t e').Sat (Kof c r W0 G D) := h; exact Kof.weak s' h'
      | bk e' => rw [q2] at h; have h' : (SO.bk e').Sat (Kof c r W0 G D) := h; exact Kof.weak s' h'
      | ct e' => rw [q2] at h; have h' : (SO.ct e').Sat (Kof c r W0 G D) := h; exact Kof.weak s' h'
      | bad => rw [q2] at h; exact h.elim
      | exc z e' => rw [q2] at h; exact h.elim
    · rw [hy, if_neg Bool.false_ne_true] at h
      exact h ads' G' H' σ' cls d R' s' rx
end
end TreeL
end
section
/-! TL30: == and != by an __eq__ that several classes inherit. -/
namespace TreeL
open PySem PySem.Spec PyProof.Rows L2
def isInsL (ls : List Nat) (env : En) (x : Vl) : Bool := match look env x with
  | some (.ins k _) => ls.contains k
  | _ => false
theorem isInsL_of {ls : List Nat} {env : En} {x : Vl} (h : isInsL ls env x = true) : ∃ k ∈ ls, isIns k env x = true := by
  unfold isInsL at h
  unfold isIns
  split at h
  · rename_i k fs e
    exact ⟨k, List.contains_iff_mem.mp h, by first | (rw [e]; simp; done) | (simp; done)⟩
  · cases h
def rDun2L (ls : List Nat) (F : FSem) (g : Arg → Option Arg) (ea eb : EvE) : EvR := fun env => (ea env).bind fun x e1 => (eb e1).bind fun y e => if isInsL ls e x && isInsL ls e y then (callOf 2 F [] [x, y] e).bind fun a e => ofO (g a) e else .bad
theorem dunL {ls : List Nat} {F : FSem} {g : Arg → Option Arg} {ea eb : EvE} (h0 : ls ≠ []) (env : En) : (∃ kc ∈ ls, rDun2L ls F g ea eb env = rDun2 kc F g (isInsL ls) ea eb env) ∨ rDun2L ls F g ea eb env = .bad := by
  obtain ⟨k0, hk0⟩ := List.exists_mem_of_ne_nil ls h0
  unfold rDun2L rDun2
  cases ea env with
  | bad => exact .inr rfl
  | exc x e => exact .inl ⟨k0, hk0, rfl⟩
  | ok x e1 =>
    simp only [RE.bind]
    cases eb e1 with
    | bad => exact .inr rfl
    | exc y e => exact .inl ⟨k0, hk0, rfl⟩
    | ok y e =>
      simp only
      cases hx : isInsL ls e x with
      | false => exact .inr rfl
      | true =>
        obtain ⟨k, hk, h1⟩ := isInsL_of hx
        exact .inl ⟨k, hk, by rw [h1]⟩
section
variable {X : Cx} {c : TC} {r : Ref} {W : WX} {F : FSem} {ea eb : EvE} {k kc : Nat} {ls : List Nat} {f : Addr} {fd : FuncData} {ps : List Str} {pos : Pos} {a b : Expr}
def PInsL (c : TC) (ls : List Nat) : V → Hp → Prop := fun v H => ∃ k ∈ ls, PIns c k v H
theorem pinsL_ok : ∀ ads G H σ env y v, RS c r ads G H σ env → VRep c σ G y v → isInsL ls env y = true → PInsL c ls v H := fun _ _ _ _ _ _ _ R p h => by
  obtain ⟨k, hk, h1⟩ := isInsL_of h
  exact ⟨k, hk, pins_ok _ _ _ _ _ _ _ R p h1⟩
theorem eqOwnL_run (hn : ∀ k' ∈ ls, PySem.W.notFirst X.K (c.C kc) (.ref (c.C k')) = true) (M : OwnM X.K (c.C kc) "__eq__" f) (hF : FnG X.prog X.w X.K X.mg X.base k f fd ps (spF c 2 F)) (hb : Binds X.K fd ps []) (hr : RoomG k X.A) (tk : Takes X W) (ha : PE X a (TEof c r W ea)) (hbb : PE X b (TEof c r W eb))
    {pins : List (Addr × Obj)} {st : Shared} {σ : L2.St} {H : Hp} {Q : VK} (I : Inv X pins σ H st) (h : TRof c r W (rDun2 kc F gBl (isInsL ls) ea eb) σ H Q) :
    wpAny (model X.prog X.w) X.A (eval a X.env) (fun v s1 => wpAny (model X.prog X.w) X.A (eval b X.env) (fun u s2 => wpAny (model X.prog X.w) X.A (compareOp .Eq v u) (EP X pins σ Q) X.xe s2) X.xe s1) X.xe st := by
  refine two_run (f2 := compareOp .Eq) pinsL_ok ha hbb (fun pins st σ H x y v u Q ads0 G0 H0 I rx ry ⟨⟨a1, dx, gs, e1, hH⟩, ⟨k2, hk2, a2, dy, gs2, e2, hH2⟩, sp⟩ => ?_) I h
  subst e1; subst e2
  obtain rfl := (show v = Value.ref a1 from rx)
  obtain rfl := (show u = Value.ref a2 from ry)
  obtain ⟨ox, od, J⟩ := inst_of I hH
  obtain ⟨ox2, od2, J2⟩ := inst_of I hH2
  obtain ⟨m, fr⟩ := I.fr
  show wpAny _ _ (richCompare .Eq _ _) _ _ _
  refine PySem.W.cmp_K (op := .Eq) hr.rm.units0 fr I.ok.mod.kin J J2.type (hn k2 hk2) M.at_ M.fn ?_
  refine thn (runG0 hF hb hr I.ok.frames (passAt tk σ) I (.cons rx (.cons ry .nil)) sp) fun u s2 ⟨v2, H2, I2, r2, qg⟩ => ?_
  obtain ⟨bb, rfl, q⟩ := qg.bl gBl_bl
  cases r2
  exact ⟨.bl bb, H2, I2, (show RelV (.bl bb) (.bool bb) from rfl), q⟩
theorem neOwnL_run (hn : ∀ k' ∈ ls, PySem.W.notFirst X.K (c.C kc) (.ref (c.C k')) = true) (M : OwnM X.K (c.C kc) "__eq__" f) (hne : PySem.W.findIn X.K (.ref (c.C kc)) "__ne__" = some (some (.builtin "object.__ne__"))) (hob : PySem.W.mroIn X.K (c.C kc) (.type "object") = some true) (hF : FnG X.prog X.w X.K X.mg X.base k f fd ps (spF c 2 F)) (hb : Binds X.K fd ps []) (hr : RoomG (k + 1) X.A) (tk : Takes X W) (ha : PE X a (TEof c r W ea)) (hbb : PE X b (TEof c r W eb))
    {pins : List (Addr × Obj)} {st : Shared} {σ : L2.St} {H : Hp} {Q : VK} (I : Inv X pins σ H st) (h : TRof c r W (rDun2 kc F gNot (isInsL ls) ea eb) σ H Q) :
    wpAny (model X.prog X.w) X.A (eval a X.env) (fun v s1 => wpAny (model X.prog X.w) X.A (eval b X.env) (fun u s2 => wpAny (model X.prog X.w) X.A (compareOp .NotEq v u) (EP X pins σ Q) X.xe s2) X.xe s1) X.xe st := by
  refine two_run (f2 := compareOp .NotEq) pinsL_ok ha hbb (fun pins st σ H x y v u Q ads0 G0 H0 I rx ry ⟨⟨a1, dx, gs, e1, hH⟩, ⟨k2, hk2, a2, dy, gs2, e2, hH2⟩, sp⟩ => ?_) I h
  subst e1; subst e2
  obtain rfl := (show v = Value.ref a1 from rx)
  obtain rfl := (show u = Value.ref a2 from ry)
  obtain ⟨ox, od, J⟩ := inst_of I hH
  obtain ⟨ox2, od2, J2⟩ := inst_of I hH2
  obtain ⟨m, fr⟩ := I.fr
  show wpAny _ _ (richCompare .NotEq _ _) _ _ _
  refine ne_K (by have := hr.rm.un; omega) fr I.ok.mod.kin J J2.type (hn k2 hk2) hne hob M.at_ M.fn ?_
  refine thn (runG0 hF hb (RoomG.in1 hr) (frames_in1 I.ok.frames) (passAt tk σ) I (.cons rx (.cons ry .nil)) sp) fun u s2 ⟨v2, H2, I2, r2, qg⟩ => ?_
  obtain ⟨bb, rfl, q⟩ := qg.bl gNot_bl
  cases r2
  exact ⟨bb, rfl, .bl (!bb), H2, I2, (show RelV (.bl (!bb)) (.bool !bb) from rfl), q⟩
/-- the reading by one of the classes -/
theorem dunL_imp {g : Arg → Option Arg} (h0 : ls ≠ []) {σ : L2.St} {H : Hp} {Q : VK} (h : TRof c r W (rDun2L ls F g ea eb) σ H Q) : ∃ kc ∈ ls, TRof c r W (rDun2 kc F g (isInsL ls) ea eb) σ H Q := by
  obtain ⟨ads, G, env, R, q⟩ := h
  rcases dunL (F := F) (g := g) (ea := ea) (eb := eb) h0 env with ⟨kc, hk, e⟩ | e
  · rw [e] at q; exact ⟨kc, hk, ads, G, env, R, q⟩
  · rw [e] at q; exact q.elim
/-- what each of the classes must say -/
structure EqL (K : PySem.W.Frag) (c : TC) (ls : List Nat) (f : Addr) : Prop where
  ne : ls ≠ []
  m : ∀ k ∈ ls, OwnM K (c.C k) "__eq__" f
  nf : ∀ k ∈ ls, ∀ k' ∈ ls, PySem.W.notFirst K (c.C k) (.ref (c.C k')) = true
  hne : ∀ k ∈ ls, PySem.W.findIn K (.ref (c.C k)) "__ne__" = some (some (.builtin "object.__ne__"))
  hob : ∀ k ∈ ls, PySem.W.mroIn K (c.C k) (.type "object") = some true
theorem tr_eqOwnL (T : EqL X.K c ls f) (hF : FnG X.prog X.w X.K X.mg X.base k f fd ps (spF c 2 F)) (hb : Binds X.K fd ps []) (hr : RoomG k X.A) (tk : Takes X W) (ha : PE X a (TEof c r W ea)) (hbb : PE X b (TEof c r W eb)) :
    PE X (.Compare a [.Eq] [b] pos) (TRof c r W (rDun2L ls F gBl ea eb)) := ⟨fun pins st σ H Q I h => by
  obtain ⟨kc, hk, h⟩ := dunL_imp T.ne h
  exact wpAny_Compare1 (eqOwnL_run (T.nf kc hk) (T.m kc hk) hF hb hr tk ha hbb I h) (nomark _)⟩
theorem tr_neOwnL (T : EqL X.K c ls f) (hF : FnG X.prog X.w X.K X.mg X.base k f fd ps (spF c 2 F)) (hb : Binds X.K fd ps []) (hr : RoomG (k + 1) X.A) (tk : Takes X W) (ha : PE X a (TEof c r W ea)) (hbb : PE X b (TEof c r W eb)) :
    PE X (.Compare a [.NotEq] [b] pos) (TRof c r W (rDun2L ls F gNot ea eb)) := ⟨fun pins st σ H Q I h => by
  obtain ⟨kc, hk, h⟩ := dunL_imp T.ne h
  exact wpAny_Compare1 (neOwnL_run (T.nf kc hk) (T.m kc hk) (T.hne kc hk) (T.hob kc hk) hF hb hr tk ha hbb I h) (nomark _)⟩
theorem tt_eqOwnL (T : EqL X.K c ls f) (hF : FnG X.prog X.w X.K X.mg X.base k f fd ps (spF c 2 F)) (hb : Binds X.K fd ps []) (hr : RoomG k X.A) (tk : Takes X W) (ha : PE X a (TEof c r W ea)) (hbb : PE X b (TEof c r W eb)) :
    PT X (.Compare a [.Eq] [b] pos) (TTof c r W (tTst (rDun2L ls F gBl ea eb))) := ⟨fun pins st σ H Q I h => by
  obtain ⟨kc, hk, h⟩ := dunL_imp T.ne (tst_imp h)
  refine wpAny_isTrue_Compare1 (thn (eqOwnL_run (T.nf kc hk) (T.m kc hk) hF hb hr tk ha hbb I h) fun v s1 h1 => thn h1 fun u s2 h2 => thn h2 fun cv s3 ⟨z, H3, I3, r3, kk, e, q3⟩ => ?_) (nomark _)
  subst e
  cases r3
  exact wpAny_truthy_bool ⟨H3, I3, q3⟩⟩
theorem tt_neOwnL (T : EqL X.K c ls f) (hF : FnG X.prog X.w X.K X.mg X.base k f fd ps (spF c 2 F)) (hb : Binds X.K fd ps []) (hr : RoomG (k + 1) X.A) (tk : Takes X W) (ha : PE X a (TEof c r W ea)) (hbb : PE X b (TEof c r W eb)) :
    PT X (.Compare a [.NotEq] [b] pos) (TTof c r W (tTst (rDun2L ls F gNot ea eb))) := ⟨fun pins st σ H Q I h => by
  obtain ⟨kc, hk, h⟩ := dunL_imp T.ne (tst_imp h)
  refine wpAny_isTrue_Compare1 (thn (neOwnL_run (T.nf kc hk) (T.m kc hk) (T.hne kc hk) (T.hob kc hk) hF hb hr tk ha hbb I h) fun v s1 h1 => thn h1 fun u s2 h2 => thn h2 fun cv s3 ⟨z, H3, I3, r3, kk, e, q3⟩ => ?_) (nomark _)
  subst e
  cases r3
  exact wpAny_truthy_bool ⟨H3, I3, q3⟩⟩
end
def eqLB1 (cs : List Str) (ls : List Nat) (base : Str) (k : Nat) (K : PySem.W.Frag) : Bool := He.eqO (PySem.W.findIn K (.ref ((tcN K cs).C k)) "__eq__") (some (some (.ref (He.ma K (He.ga K base) "__eq__")))) && PySem.W.isFn K (.ref (He.ma K (He.ga K base) "__eq__")) &&
  (ls.all fun k' => PySem.W.notFirst K ((tcN K cs).C k) (.ref ((tcN K cs).C k'))) && He.eqO (PySem.W.findIn K (.ref ((tcN K cs).C k)) "__ne__") (some (some (.builtin "object.__ne__"))) && decide (PySem.W.mroIn K ((tcN K cs).C k) (.type "object") = some true)
def eqLB (cs : List Str) (ls : List Nat) (base : Str) (K : PySem.W.Frag) : Bool := !ls.isEmpty && ls.all fun k => eqLB1 cs ls base k K
theorem eqLB1_ok {cs : List Str} {ls : List Nat} {base : Str} {k : Nat} {K : PySem.W.Frag} (h : eqLB1 cs ls base k K = true) : OwnM K ((tcN K cs).C k) "__eq__" (He.ma K (He.ga K base) "__eq__") ∧ (∀ k' ∈ ls, PySem.W.notFirst K ((tcN K cs).C k) (.ref ((tcN K cs).C k')) = true) ∧
    PySem.W.findIn K (.ref ((tcN K cs).C k)) "__ne__" = some (some (.builtin "object.__ne__")) ∧ PySem.W.mroIn K ((tcN K cs).C k) (.type "object") = some true := by
  unfold eqLB1 at h
  simp only [Bool.and_eq_true, decide_eq_true_eq] at h
  obtain ⟨⟨⟨⟨a1, a2⟩, a3⟩, a4⟩, a5⟩ := h
  exact ⟨⟨He.eqO_ok a1, a2⟩, fun k' hk => List.all_eq_true.mp a3 k' hk, He.eqO_ok a4, a5⟩
theorem eqLB_ok {cs : List Str} {ls : List Nat} {base : Str} {K : PySem.W.Frag} (h : eqLB cs ls base K = true) : EqL K (tcN K cs) ls (He.ma K (He.ga K base) "__eq__") := by
  unfold eqLB at h
  rw [Bool.and_eq_true] at h
  have z := fun k (hk : k ∈ ls) => eqLB1_ok (List.all_eq_true.mp h.2 k hk)
  exact ⟨(fun e => by rw [e] at h; exact Bool.noConfusion h.1), fun k hk => (z k hk).1, fun k hk => (z k hk).2.1, fun k hk => (z k hk).2.2.1, fun k hk => (z k hk).2.2.2⟩
end TreeL
end
section
/-! TL31: xs[k] = e of a list of our own. -/
namespace TreeL
open PySem PySem.Spec PyProof.Rows L2
section
variable {X : Cx} {c : TC} {r : Ref} {W : WX} {ea ei : EvE} {pos spos : Pos}
def isOwL : Option (Option Arg) → Bool
  | some (some (.ow (.lst _))) => true
  | _ => false
@[simp] def sItem (i : Nat) (ei ea : EvE) : EvS := fun env => (ea env).so fun x e1 => if isOwL e1[i]? then (ei e1).so fun y e2 => (match x, y, e2[i]? with
  | .tr t, .tr (.int k), some (some (.ow (.lst xs))) => (match ixN xs.length k with
    | some j => .nx (e2.set i (some (.ow (.lst (xs.set j t)))))
    | none => .bad)
  | _, _, _ => .bad) else .bad
theorem ts_item {i : Nat} {o idx e : Expr} (ho : PE X o (tVar i)) (hi : PE X idx (TEof c r W ei)) (he : PE X e (TEof c r W ea))
    (ha : ∀ v, assign (.Subscript o idx spos) X.env v = (do
      let ov ← holding [v] (eval o X.env)
      let iv ← holding [v, ov] (eval idx X.env)
      standAt spos
      holding [v, ov, iv] (setItem ov iv v)
      release [v, ov, iv] []) := by intro _; rfl)
    (hs : swapsWithSole [.Subscript o idx spos] e pos.line X.env = pure false := by rfl) (hw : swappedStores [.Subscript o idx spos] e X.env = pure none := by rfl)
    (h1 : (assignEach [.Subscript o idx spos] X.env).map (·.2) = [assign (.Subscript o idx spos) X.env] := by rfl) : PS X (.Assign [.Subscript o idx spos] e pos) (TSof c r W (sItem i ei ea)) :=
  PS.imp (ps_asg he (pg_sub ho hi set_list ha) hs hw h1) fun D σ H ⟨ads, G, env, R, h⟩ => by
    refine ⟨ads, G, env, R, Sat_mono (RE.so_Sat.mp h) (fun x e1 h1 ads1 G1 H1 v1 R1 s1 p1 => ?_) fun x e z => XC.of z⟩
    by_cases ol : isOwL e1[i]? = true
    rotate_left
    · rw [if_neg ol] at h1; exact h1.elim
    rw [if_pos ol] at h1
    have ol' : ∃ xs, e1[i]? = some (some (.ow (.lst xs))) := by
      unfold isOwL at ol
      split at ol
      · rename_i xs q; exact ⟨xs, q⟩
      · cases ol
    obtain ⟨xs0, q0⟩ := ol'
    obtain ⟨p, sp, _⟩ := slot_own R1 q0
    refine ⟨.ref p, sp, ads1, G1, e1, R1, Sat_mono (RE.so_Sat.mp h1) (fun y e2 h2 ads2 G2 H2 v2 R2 s2 p2 => ?_) fun x e z => XC.weak (XC.of z) s1.sub⟩
    cases x with
    | sl i => exact h2.elim
    | tr t =>
      cases y with
      | sl i => exact h2.elim
      | tr y =>
        cases y with
        | int k =>
          cases q : e2[i]? with
          | none => simp only [q] at h2; exact h2.elim
          | some s =>
            cases s with
            | none => simp only [q] at h2; exact h2.elim
            | some a =>
              cases a with
              | t _ => simp only [q] at h2; exact h2.elim
              | ow w =>
                cases w with
                | lst xs =>
                  simp only [q] at h2
                  cases qj : ixN xs.length k with
                  | none => simp only [qj] at h2; exact h2.elim
                  | some j =>
                    simp only [qj] at h2
                    obtain ⟨p', sp', ow⟩ := slot_own R2 q
                    rw [sp] at sp'
                    cases sp'
                    obtain ⟨had, vs, hH, rl⟩ := ow
                    have p2' : v2 = .int k := by simpa [VRep, Rep] using p2
                    have rt : Rep c G2 t v1 := Rep.mono s2.sub p1
                    refine ⟨p, vs, k, j, rfl, p2', hH, by rw [rl.length]; exact qj, ?_⟩
                    have own : p ∈ ads2 i := by rw [had]; exact List.mem_singleton.mpr rfl
                    have R3 := R2.write sp own hH (ho' := .lst (vs.set j v1)) (o := .lst (xs.set j t)) ⟨had, _, upd_same, RepL.set j rl rt⟩
                    exact h2 _ G2 _ _ R3 (s1.sub.trans s2.sub)
                | _ => simp only [q] at h2; exact h2.elim
        | _ => exact h2.elim
end
end TreeL
end
section
/-! TL32: a list of our own whose last part is a list of our own ([[]], xs.append([]), xs[-1].append(x)). -/
namespace TreeL
open PySem PySem.Spec PyProof.Rows L2
section
variable {c : TC} {r : Ref} {ads : Nat → List Addr} {G H : Hp} {σ : L2.St} {env : En} {i : Nat} {xs ys : List PV}
def adSet (ads : Nat → List Addr) (i : Nat) (l : List Addr) : Nat → List Addr := fun j => if j = i then l else ads j
theorem adSet_self {l : List Addr} : adSet ads i l i = l := if_pos rfl
theorem adSet_ne {l : List Addr} {j : Nat} (h : j ≠ i) : adSet ads i l j = ads j := if_neg h
/-- the last part is known for good: a list as others -/
theorem RS.seal (R : RS c r ads G H σ env) {p : Addr} (hs : σ[i]? = some (some (.ref p))) (hp : (r.pins.map Prod.fst).contains i = false) {q : Addr} {us vs : List V} (had : ads i = [p, q]) (hpq : p ≠ q) (hH : H p = some (.lst (us ++ [.ref q]))) (rx : RepL c G xs us) (hq : H q = some (.lst vs)) (ry : RepL c G ys vs) (li : i < env.length) :
    Nxt ads G H (adSet ads i [p]) (upd G q (.lst vs)) H ∧ Sub G (upd G q (.lst vs)) ∧ RepL c (upd G q (.lst vs)) (xs ++ [.lst ys]) (us ++ [.ref q]) ∧
    RS c r (adSet ads i [p]) (upd G q (.lst vs)) H σ (env.set i (some (.ow (.lst (xs ++ [.lst ys]))))) := by
  have hqi : q ∈ ads i := by rw [had]; simp
  have hpi : p ∈ ads i := by rw [had]; simp
  have hG := (R.own i q hqi).1
  have hni : ¬ i ∈ r.pins.map Prod.fst := fun m => by rw [List.contains_iff_mem.mpr m] at hp; cases hp
  have hH0 : r.H0 q = none := by
    rcases (R.own i q hqi).2 with z | z
    · exact absurd z.1 hni
    · exact z
  obtain ⟨s1, s2⟩ := Step.freeze R.sub hG hq
  have rr : RepL c (upd G q (.lst vs)) (xs ++ [.lst ys]) (us ++ [.ref q]) := (rx.mono s1).append (RepL.one (by
    simp only [Rep]
    exact ⟨q, vs, rfl, upd_same, ry.mono s1⟩))
  refine ⟨Nxt.know hG ⟨i, hqi⟩ (fun j a m => ?_), s1, rr, ⟨⟨R.step.sub.trans s1, s2, fun a u e => ?_, R.step.keep, R.step.there⟩, by simp [R.len], fun j => ?_, fun j a ha => ?_, fun j k a ha hb => ?_, fun z hz => ?_⟩⟩
  · by_cases z : j = i
    · subst z; rw [adSet_self] at m; rw [List.mem_singleton.mp m]; exact hpi
    · rw [adSet_ne z] at m; exact m
  · by_cases z : a = q
    · rw [z]; exact .inr hH0
    · rw [upd_ne z] at e; exact R.step.new a u e
  · by_cases z : j = i
    · subst z
      rw [join_set_self li, adSet_self, hs]
      exact ⟨p, rfl, rfl, _, hH, rr⟩
    · rw [join_set_ne (Ne.symm z), adSet_ne z]
      exact (R.slot j).stay s1 fun _ _ _ e => e
  · by_cases z : j = i
    · subst z
      rw [adSet_self] at ha
      rw [List.mem_singleton.mp ha]
      refine ⟨?_, (R.own j p hpi).2⟩
      rw [upd_ne hpq]
      exact (R.own j p hpi).1
    · rw [adSet_ne z] at ha
      refine ⟨?_, (R.own j a ha).2⟩
      have ne : a ≠ q := fun w => z (R.disj j i q (by rw [← w]; exact ha) hqi)
      rw [upd_ne ne]
      exact (R.own j a ha).1
  · by_cases z : j = i
    · by_cases z' : k = i
      · rw [z, z']
      · subst z
        rw [adSet_self] at ha
        rw [adSet_ne z'] at hb
        rw [List.mem_singleton.mp ha] at hb
        exact R.disj j k p hpi hb
    · by_cases z' : k = i
      · subst z'
        rw [adSet_self] at hb
        rw [adSet_ne z] at ha
        rw [List.mem_singleton.mp hb] at ha
        exact R.disj j k p ha hpi
      · rw [adSet_ne z] at ha
        rw [adSet_ne z'] at hb
        exact R.disj j k a ha hb
  · have ne : z.1 ≠ i := fun e => hni (by rw [← e]; exact List.mem_map_of_mem hz)
    rw [adSet_ne ne]
    exact R.pin z hz
/-- a new empty list stands at the end of an owned list -/
theorem RS.openL (R : RS c r ads G H σ env) {p : Addr} (hs : σ[i]? = some (some (.ref p))) (hp : (r.pins.map Prod.fst).contains i = false) {us : List V} (had : ads i = [p]) (hH : H p = some (.lst us)) (rx : RepL c G xs us) (li : i < env.length) {q : Addr} (hq : H q = none) :
    Nxt ads G H (adSet ads i [p, q]) G (upd (upd H q (.lst [])) p (.lst (us ++ [.ref q]))) ∧
    RS c r (adSet ads i [p, q]) G (upd (upd H q (.lst [])) p (.lst (us ++ [.ref q]))) σ (env.set i (some (.ow (.lof xs [])))) := by
  have hpi : p ∈ ads i := by rw [had]; simp
  have hni : ¬ i ∈ r.pins.map Prod.fst := fun m => by rw [List.contains_iff_mem.mpr m] at hp; cases hp
  have hpq : p ≠ q := fun e => by rw [e, hq] at hH; cases hH
  have Gp := (R.own i p hpi).1
  have Gq : G q = none := by
    cases e : G q with
    | none => rfl
    | some u =>
      have z := R.sub _ _ e
      rw [hq] at z; cases z
  have H0q := R.step.there q hq
  have hnot : ∀ j, q ∉ ads j := fun j hj => by
    obtain ⟨u, e⟩ := R.ownSome hj
    rw [hq] at e; cases e
  have H1p : upd H q (.lst []) p = some (.lst us) := by rw [upd_ne hpq]; exact hH
  have st1 : Step [] H G (upd H q (.lst [])) G := Step.allocO R.sub hq
  have st2 := Step.write (o := .lst (us ++ [.ref q])) st1.sub1 Gp H1p
  have Hq' : upd (upd H q (.lst [])) p (.lst (us ++ [.ref q])) q = some (.lst []) := by rw [upd_ne (Ne.symm hpq)]; exact upd_same
  have keepO : ∀ a u, a ≠ p → H a = some u → upd (upd H q (.lst [])) p (.lst (us ++ [.ref q])) a = some u := fun a u ne e => by
    rw [upd_ne ne, upd_ne (fun z => by rw [z, hq] at e; cases e)]; exact e
  refine ⟨⟨Sub.refl _, fun a o e n => ⟨keepO a o (fun z => n i (by rw [z]; exact hpi)) e, fun j m => ?_, id⟩, fun a e => ?_⟩, ⟨?_, by simp [R.len], fun j => ?_, fun j a ha => ?_, fun j k a ha hb => ?_, fun z hz => ?_⟩⟩
  · by_cases z : j = i
    · subst z
      rw [adSet_self] at m
      simp at m
      rcases m with rfl | rfl
      · exact n j hpi
      · rw [hq] at e; cases e
    · rw [adSet_ne z] at m; exact n j m
  · by_cases z : a = p
    · rw [z, upd_same] at e; cases e
    · rw [upd_ne z] at e
      by_cases z' : a = q
      · rw [z']; exact hq
      · rw [upd_ne z'] at e; exact e
  · refine (R.step.trans0 st1).trans st2 fun x hx => ?_
    rw [List.mem_singleton.mp hx]
    rcases (R.own i p hpi).2 with z | z
    · exact .inl z.2
    · exact .inr z
  · by_cases z : j = i
    · subst z
      rw [join_set_self li, adSet_self, hs]
      exact ⟨p, rfl, q, us, [], rfl, hpq, upd_same, rx, Hq', RepL.nil⟩
    · rw [join_set_ne (Ne.symm z), adSet_ne z]
      refine (R.slot j).stay (Sub.refl _) fun b hb u e => keepO b u (fun w => z (R.disj j i p (by rw [← w]; exact hb) hpi)) e
  · by_cases z : j = i
    · subst z
      rw [adSet_self] at ha
      simp at ha
      rcases ha with rfl | rfl
      · exact R.own j _ hpi
      · exact ⟨Gq, .inr H0q⟩
    · rw [adSet_ne z] at ha
      exact R.own j a ha
  · by_cases z : j = i
    · by_cases z' : k = i
      · rw [z, z']
      · subst z
        rw [adSet_self] at ha
        rw [adSet_ne z'] at hb
        simp at ha
        rcases ha with rfl | rfl
        · exact R.disj j k _ hpi hb
        · exact absurd hb (hnot k)
    · by_cases z' : k = i
      · subst z'
        rw [adSet_self] at hb
        rw [adSet_ne z] at ha
        simp at hb
        rcases hb with rfl | rfl
        · exact R.disj j k _ ha hpi
        · exact absurd ha (hnot j)
      · rw [adSet_ne z] at ha
        rw [adSet_ne z'] at hb
        exact R.disj j k a ha hb
  · have ne : z.1 ≠ i := fun e => hni (by rw [← e]; exact List.mem_map_of_mem hz)
    rw [adSet_ne ne]
    exact R.pin z hz
theorem lof_slot (R : RS c r ads G H σ env) (q : env[i]? = some (some (.ow (.lof xs ys)))) :
    ∃ p q us vs, σ[i]? = some (some (.ref p)) ∧ ads i = [p, q] ∧ p ≠ q ∧ H p = some (.lst (us ++ [V.ref q])) ∧ RepL c G xs us ∧ H q = some (.lst vs) ∧ RepL c G ys vs := by
  obtain ⟨a, e, q', us, vs, h⟩ := slot_own R q
  exact ⟨a, q', us, vs, e, h⟩
end
@[simp] def fLof0 : EvF := fun env => .ok (.lof [] []) env
@[simp] def eLofApp (i : Nat) : EvE := fun env => match env[i]? with
  | some (some (.ow (.lof xs ys))) => if xs.length < 900000 then .ok (.tr .non) (env.set i (some (.ow (.lof (xs ++ [.lst ys]) [])))) else .bad
  | _ => .bad
@[simp] def eLofPut (i j : Nat) : EvE := fun env => match env[i]?, env[j]? with
  | some (some (.ow (.lof xs ys))), some (some (.t t)) => if ys.length < LIM then .ok (.tr .non) (env.set i (some (.ow (.lof xs (ys ++ [t]))))) else .bad
  | _, _ => .bad
@[simp] def eLofTo (i : Nat) : EvE := fun env => match env[i]? with
  | some (some (.ow (.lof xs ys))) => .ok (.tr (.lst (xs ++ [.lst ys]))) (env.set i (some (.t (.lst (xs ++ [.lst ys])))))
  | _ => .bad
section
variable {X : Cx} {c : TC} {r : Ref} {W : WX} {o e idx : Expr} {i j : Nat} {pos p1 p2 apos cpos : Pos}
theorem pf_lof0 : PE X (.List [.List [] p1] p2) (TFof c r W fLof0) := PE.imp (pe_lst (pa_cons (pe_lst pa_nil) pa_nil)) fun σ H Q ⟨ads, G, env, R, h⟩ => by
  refine ⟨Nat.zero_le _, fun q hq => ⟨by simp only [List.length_cons, List.length_nil]; exact lim_line (show 1 ≤ LIM by unfold LIM; omega), fun p hp => ?_⟩⟩
  have hpq : p ≠ q := fun e => by rw [e, upd_same] at hp; cases hp
  have hp0 : H p = none := by rw [upd_ne hpq] at hp; exact hp
  have R1 : RS c r ads G (upd H q (.lst [])) σ env := R.lay hq
  have R2 : RS c r ads G (upd (upd H q (.lst [])) p (.lst [V.ref q])) σ env := R1.lay hp
  refine h ads G _ p [p, q] R2 ((Nxt.of (Step.allocO R.sub hq)).trans (Nxt.of (Step.allocO R1.sub hp))) ⟨q, [], [], rfl, hpq, upd_same, RepL.nil, ?_, RepL.nil⟩ fun b hb => ?_
  · rw [upd_ne (Ne.symm hpq)]; exact upd_same
  · simp at hb
    rcases hb with rfl | rfl
    · exact ⟨New.of R hp0, hp0⟩
    · exact ⟨New.of R hq, hq⟩
theorem pt_lofTo (hp : (r.pins.map Prod.fst).contains i = false) (he : PE X e (tVar i)) : PE X e (TEof c r W (eLofTo i)) := PE.imp he fun σ H Q ⟨ads, G, env, R, h⟩ => by
  simp only [eLofTo] at h
  cases q : env[i]? with
  | none => simp only [q] at h; exact h.elim
  | some u =>
    cases u with
    | none => simp only [q] at h; exact h.elim
    | some u =>
      cases u with
      | t _ => simp only [q] at h; exact h.elim
      | ow u =>
        cases u with
        | lof xs ys =>
          simp only [q] at h
          have li : i < env.length := (List.getElem?_eq_some_iff.mp q).1
          obtain ⟨p, a, us, vs, h1, h2, h3, h4, h5, h6, h7⟩ := lof_slot R q
          obtain ⟨n1, s1, rr, R1⟩ := R.seal h1 hp h2 h3 h4 h5 h6 h7 li
          obtain ⟨G', n2, rp, R2⟩ := R1.freeze (i := i) (o := .lst (xs ++ [.lst ys])) (t := .lst (xs ++ [.lst ys])) h1 (by rw [List.getElem?_set_self li]) rfl hp
          rw [List.set_set] at R2
          exact ⟨_, h1, h _ G' H _ R2 (n1.trans n2) rp⟩
        | _ => simp only [q] at h; exact h.elim
theorem tyV_list {K : PySem.W.Frag} {p : Addr} {vs : List V} (h : H p = some (.lst vs)) : tyV K "list" (.ref p) H := .inl ⟨rfl, vs, .inl (.inl h)⟩
theorem pt_lofApp (hp : (r.pins.map Prod.fst).contains i = false) (he : PE X o (tVar i))
    (hbase : attributeBase o "append" X.env (eval o X.env) = eval o X.env := by rfl)
    (hfew : ((backTo cpos (starEach [.List [] p1] X.env)).all (fun x => !x.1) && (backToKw cpos (keywordEach [] X.env)).all (fun x => x.1.isSome) && decide (([.List [] p1] : List Expr).length + ([] : List Keyword).length + (if ([] : List Keyword).isEmpty then 0 else 1) < 30)) = true := by rfl)
    (hline : (apos.endLine == cpos.line) = true := by rfl) (hs : starEach [.List [] p1] X.env = (false, eval (.List [] p1) X.env) :: starEach [] X.env := by rfl) (hplain : (backTo cpos (starEach ([] : List Expr) X.env)).any (·.1) = false := by rfl) :
    PE X (.Call (.Attribute o "append" apos) [.List [] p1] [] cpos) (TEof c r W (eLofApp i)) :=
  PE.imp (pe_bm (T := "list") (id := "list.append") PySem.F.plainAttrs_list PySem.F.slot_list_append PySem.F.type_list_append mt_append he (pa_cons (pe_lst pa_nil) pa_nil) hbase hfew hline hs hplain) fun σ H Q ⟨ads, G, env, R, h⟩ => by
    simp only [eLofApp] at h
    cases q : env[i]? with
    | none => simp only [q] at h; exact h.elim
    | some u =>
      cases u with
      | none => simp only [q] at h; exact h.elim
      | some u =>
        cases u with
        | t _ => simp only [q] at h; exact h.elim
        | ow u =>
          cases u with
          | lof xs ys =>
            simp only [q] at h
            by_cases hl : xs.length < 900000
            · rw [if_pos hl] at h
              have li : i < env.length := (List.getElem?_eq_some_iff.mp q).1
              obtain ⟨p, a, us, vs, h1, h2, h3, h4, h5, h6, h7⟩ := lof_slot R q
              obtain ⟨n1, s1, rr, R1⟩ := R.seal h1 hp h2 h3 h4 h5 h6 h7 li
              refine ⟨.ref p, h1, tyV_list h4, Nat.zero_le _, fun b hb => ?_⟩
              obtain ⟨n2, R2⟩ := R1.openL (i := i) h1 hp adSet_self h4 rr (by rw [List.length_set]; exact li) hb
              rw [List.set_set] at R2
              have hpb : p ≠ b := fun e => by rw [e, hb] at h4; cases h4
              refine ⟨p, us ++ [.ref a], .ref b, rfl, rfl, by rw [upd_ne hpb]; exact h4, ?_, ?_⟩
              · rw [List.length_append, List.length_singleton, h5.length]
                exact Nat.lt_of_lt_of_le (show xs.length + 1 < LIM by unfold LIM; omega) (lim_line (Nat.le_refl _))
              · exact h _ _ _ .non R2 (n1.trans n2) (rep_non (c := c) (upd G a (.lst vs)))
            · rw [if_neg hl] at h; exact h.elim
          | _ => simp only [q] at h; exact h.elim
theorem pt_lofPut {a : Expr} (he : PE X o (tVar i)) (hx : PE X idx (TEof c r W (eUn negP (eCon (.int 1))))) (hpi : PlainIx idx) (ha : PE X a (tVar j))
    (hbase : attributeBase (.Subscript o idx p1) "append" X.env (eval (.Subscript o idx p1) X.env) = eval (.Subscript o idx p1) X.env := by rfl)
    (hfew : ((backTo cpos (starEach [a] X.env)).all (fun x => !x.1) && (backToKw cpos (keywordEach [] X.env)).all (fun x => x.1.isSome) && decide (([a] : List Expr).length + ([] : List Keyword).length + (if ([] : List Keyword).isEmpty then 0 else 1) < 30)) = true := by rfl)
    (hline : (apos.endLine == cpos.line) = true := by rfl) (hs : starEach [a] X.env = (false, eval a X.env) :: starEach [] X.env := by rfl) (hplain : (backTo cpos (starEach ([] : List Expr) X.env)).any (·.1) = false := by rfl) :
    PE X (.Call (.Attribute (.Subscript o idx p1) "append" apos) [a] [] cpos) (TEof c r W (eLofPut i j)) :=
  PE.imp (pe_bm (T := "list") (id := "list.append") PySem.F.plainAttrs_list PySem.F.slot_list_append PySem.F.type_list_append mt_append (pe_ix ix_list he hx hpi) (pa_cons ha pa_nil hs) hbase hfew hline hs hplain) fun σ H Q ⟨ads, G, env, R, h⟩ => by
    simp only [eLofPut] at h
    cases q : env[i]? with
    | none => simp only [q] at h; exact h.elim
    | some u =>
      cases u with
      | none => simp only [q] at h; exact h.elim
      | some u =>
        cases u with
        | t _ => simp only [q] at h; exact h.elim
        | ow u =>
          cases u with
          | lof xs ys =>
            cases q2 : env[j]? with
            | none => simp only [q, q2] at h; exact h.elim
            | some w =>
              cases w with
              | none => simp only [q, q2] at h; exact h.elim
              | some w =>
                cases w with
                | ow _ => simp only [q, q2] at h; exact h.elim
                | t t =>
                  simp only [q, q2] at h
                  by_cases hl : ys.length < LIM
                  · rw [if_pos hl] at h
                    obtain ⟨p0, _, _, _, h1, _⟩ := lof_slot R q
                    refine ⟨.ref p0, h1, ads, G, env, R, ?_⟩
                    simp only [eUn, eCon, RE.bind, look, negP, ofO, RE.Sat]
                    intro ads1 G1 H1 v1 R1 n1 rv
                    have hv1 : v1 = .int (-1) := by simpa [VRep, Rep] using rv
                    obtain ⟨p, a, us, vs, e1, h2, h3, h4, h5, h6, h7⟩ := lof_slot R1 q
                    rw [h1] at e1
                    cases e1
                    have sj := R1.slot j
                    rw [q2] at sj
                    cases hj : σ[j]? with
                    | none => rw [hj] at sj; exact (show False from sj).elim
                    | some vj =>
                      cases vj with
                      | none => rw [hj] at sj; exact (show False from sj).elim
                      | some vj =>
                        rw [hj] at sj
                        obtain ⟨_, rt⟩ := sj
                        have at1 : L2.atI (us ++ [V.ref a]) (-1) = some (.ref a) := by
                          unfold L2.atI L2.ixN
                          rw [if_neg (by decide), if_pos (by rw [List.length_append, List.length_singleton]; omega)]
                          show (us ++ [V.ref a])[((-1 : Int) + ((us ++ [V.ref a]).length : Int)).toNat]? = _
                          rw [show ((-1 : Int) + ((us ++ [V.ref a]).length : Int)).toNat = us.length by rw [List.length_append, List.length_singleton]; omega]
                          simp
                        refine ⟨p0, us ++ [.ref a], -1, .ref a, rfl, hv1, .inl (.inl h4), at1, tyV_list h6, vj, hj, ?_⟩
                        refine ⟨a, vs, vj, rfl, rfl, h6, by rw [h7.length]; exact Nat.lt_of_lt_of_le hl (lim_line (Nat.le_refl _)), ?_⟩
                        have am : a ∈ ads1 i := by rw [h2]; simp
                        have R2 := R1.write h1 am h6 (ho' := .lst (vs ++ [vj])) (o := .lof xs (ys ++ [t])) ⟨a, us, vs ++ [vj], h2, h3, by rw [upd_ne h3]; exact h4, h5, upd_same, h7.append (RepL.one rt)⟩
                        exact h _ _ _ .non R2 (n1.trans (Nxt.wr am h6)) (rep_non (c := c) G1)
                  · rw [if_neg hl] at h; exact h.elim
          | _ => simp only [q] at h; exact h.elim
end
end TreeL
end
section
/-! TL33: dicts of our own with texts (or ints) as keys: {}, d[k] = v, k in d, d[k]; the keys of a new dict walked. -/
namespace TreeL
open PySem PySem.Spec PyProof.Rows L2
section
variable {c : TC} {G : Hp}
def getP (kvs : List (PV × PV)) (k : PV) : Option PV := (kvs.find? fun kv => PV.beq kv.1 k).map (·.2)
def hasP (kvs : List (PV × PV)) (k : PV) : Bool := kvs.any fun kv => PV.beq kv.1 k
theorem RepK.find {k : Key} : ∀ {kvs : List (PV × PV)} {ks : List (Key × V)}, RepK c G kvs ks → ∀ {x : PV}, getP kvs (keyP k) = some x → ∃ v, valV ks k = some v ∧ Rep c G x v
  | [], _, _, x, e => by cases e
  | (k1, y) :: rest, _, h, x, e => by
    obtain ⟨q, v, s, rfl, rfl, hv, hr⟩ := h
    unfold getP at e
    rw [List.find?_cons] at e
    by_cases z : q = k
    · have b : PV.beq (keyP q) (keyP k) = true := by rw [beq_key]; exact decide_eq_true z
      rw [b] at e
      cases e
      exact ⟨v, valV_pos (p := (q, v)) z, hv⟩
    · have b : PV.beq (keyP q) (keyP k) = false := by rw [beq_key]; exact decide_eq_false z
      rw [b] at e
      obtain ⟨u, h1, h2⟩ := RepK.find hr (x := x) e
      exact ⟨u, (valV_neg (p := (q, v)) z).trans h1, h2⟩
theorem RepK.has {k : Key} {kvs : List (PV × PV)} {ks : List (Key × V)} (h : RepK c G kvs ks) : (valV ks k).isSome = hasP kvs (keyP k) := by
  rw [← valV_any]
  exact h.any
theorem keyOf_w {G H : Hp} {t : PV} {k : Key} {v : V} (h : keyOf t = some k) (p : WRep c G H t v) : v = kV k ∧ t = keyP k := by
  cases t with
  | int i => cases h; exact ⟨p, rfl⟩
  | str x => cases h; exact ⟨p.1, rfl⟩
  | _ => cases h
end
def inDP : PV → PV → Option PV
  | k, .dct false kvs => (keyOf k).map fun _ => .bl (hasP kvs k)
  | _, _ => none
def ninDP : PV → PV → Option PV
  | k, .dct false kvs => (keyOf k).map fun _ => .bl (!hasP kvs k)
  | _, _ => none
def ixDP : PV → PV → Option PV
  | .dct false kvs, k => (keyOf k).bind fun _ => getP kvs k
  | _, _ => none
section
variable {X : Cx} {c : TC} {r : Ref} {W : WX} {a b o e : Expr} {ea eb ek : EvE} {i : Nat} {pos pos' : Pos}
theorem opr_inD (hu : X.A.units + 1 < cLine) : OpR X (compareOp .In) (fun y x H Q => ∃ a ov, x = .ref a ∧ DGet H a y ov ∧ Q (.bl ov.isSome) H) := fun pins s σ H y x u v Q I ry rx ⟨a, ov, ex, g, q⟩ => by
  subst ex
  obtain rfl : v = Value.ref a := rx
  exact d_in hu I g ry fun s3 I3 => ⟨.bl ov.isSome, H, I3, rfl, q⟩
theorem opr_ninD (hu : X.A.units + 1 < cLine) : OpR X (compareOp .NotIn) (fun y x H Q => ∃ a ov, x = .ref a ∧ DGet H a y ov ∧ Q (.bl (!ov.isSome)) H) := fun pins s σ H y x u v Q I ry rx ⟨a, ov, ex, g, q⟩ => by
  subst ex
  obtain rfl : v = Value.ref a := rx
  exact d_notIn hu I g ry fun s3 I3 => ⟨.bl (!ov.isSome), H, I3, rfl, q⟩
theorem op_inDP (hu : X.A.units + 1 < cLine) : OpP X c (compareOp .In) inDP := fun G H t1 t2 t v1 v2 Q h s w1 w2 q => by
  unfold inDP at h
  split at h
  · rename_i kvs
    cases hk : keyOf t1 with
    | none => rw [hk] at h; cases h
    | some y =>
      rw [hk] at h
      cases h
      obtain ⟨rfl, ek⟩ := keyOf_w hk w1
      obtain ⟨p, rfl, hx⟩ := w2
      rcases hx with ⟨_, ks, hx, rk⟩ | ⟨z, _⟩
      · refine ⟨_, opr_inD hu, p, _, rfl, DGet.k hx, ?_⟩
        rw [rk.has, ← ek]
        exact q.flat s rep_bl
      · cases z
  · cases h
theorem op_ninDP (hu : X.A.units + 1 < cLine) : OpP X c (compareOp .NotIn) ninDP := fun G H t1 t2 t v1 v2 Q h s w1 w2 q => by
  unfold ninDP at h
  split at h
  · rename_i kvs
    cases hk : keyOf t1 with
    | none => rw [hk] at h; cases h
    | some y =>
      rw [hk] at h
      cases h
      obtain ⟨rfl, ek⟩ := keyOf_w hk w1
      obtain ⟨p, rfl, hx⟩ := w2
      rcases hx with ⟨_, ks, hx, rk⟩ | ⟨z, _⟩
      · refine ⟨_, opr_ninD hu, p, _, rfl, DGet.k hx, ?_⟩
        rw [rk.has, ← ek]
        exact q.flat s rep_bl
      · cases z
  · cases h
theorem pt_dix (hu : X.A.units + 1 < cLine) (ha : PE X a (TEof c r W ea)) (hb : PE X b (TEof c r W eb)) (hs : NoSl b) : PE X (.Subscript a b pos) (TEof c r W (eBin ixDP ea eb)) := PE.imp (pe_dget hu ha hb hs) fun σ H Q ⟨ads, G, env, R, h⟩ => by
  refine ⟨ads, G, env, R, Sat_mono (Sat_bind.mp h) (fun x e1 h1 ads1 G1 H1 v1 R1 s1 p1 => ?_) fun _ _ z => z⟩
  refine ⟨ads1, G1, e1, R1, Sat_mono (Sat_bind.mp h1) (fun y e2 h2 ads2 G2 H2 v2 R2 s2 p2 => ?_) fun x e z => z.weak s1.sub⟩
  cases q1 : look e2 x with
  | none => rw [q1] at h2; exact h2.elim
  | some t1 =>
    rw [q1] at h2
    cases q2 : look e2 y with
    | none => rw [q2] at h2; exact h2.elim
    | some t2 =>
      rw [q2] at h2
      obtain ⟨t, ht, h3⟩ := Sat_ofO.mp (Sat_bind.mp h2)
      have w1 := look_rep R2 (p1.mono s2.sub) q1
      have w2 := look_rep R2 p2 q2
      unfold ixDP at ht
      split at ht
      · rename_i kvs
        cases hk : keyOf t2 with
        | none => rw [hk] at ht; cases ht
        | some y =>
          rw [hk] at ht
          obtain ⟨rfl, ek⟩ := keyOf_w hk w2
          obtain ⟨p, rfl, hx⟩ := w1
          rcases hx with ⟨_, ks, hx, rk⟩ | ⟨z, _⟩
          · have ht' : getP kvs (keyP y) = some t := by rw [← ek]; exact ht
            obtain ⟨v, hv, rv⟩ := rk.find ht'
            exact ⟨p, v, rfl, by rw [← hv]; exact DGet.k hx, h3 ads2 G2 H2 v R2 (s1.trans s2) rv⟩
          · cases z
      · cases ht
/-! ### a new dict, put into -/
@[simp] def fDct0 : EvF := fun env => .ok (.dct false []) env
theorem pf_dct0 : PE X (.Dict [] [] pos) (TFof c r W fDct0) := PE.imp pe_dnewK fun σ H Q ⟨ads, G, env, R, h⟩ => fun p hp => by
  exact h ads G _ p [p] (R.lay hp) (Nxt.of (Step.allocO R.sub hp)) ⟨rfl, .inl ⟨rfl, [], upd_same, rfl⟩⟩ fun b hb => by rw [List.mem_singleton.mp hb]; exact ⟨New.of R hp, hp⟩
def isOwD : Option (Option Arg) → Bool
  | some (some (.ow (.dct false _))) => true
  | _ => false
@[simp] def sDput (i : Nat) (ek ea : EvE) : EvS := fun env => (ea env).so fun x e1 => if isOwD e1[i]? then (ek e1).so fun y e2 => (match x, y, e2[i]? with
  | .tr t, .tr k, some (some (.ow (.dct false kvs))) => (match keyOf k with
    | some _ => if kvs.length < LIM then .nx (e2.set i (some (.ow (.dct false (putP kvs k t))))) else .bad
    | none => .bad)
  | _, _, _ => .bad) else .bad
theorem ts_dput {idx : Expr} (hu : X.A.units + 1 < cLine) (ho : PE X o (tVar i)) (hi : PE X idx (TEof c r W ek)) (he : PE X e (TEof c r W ea)) (hs : swapsWith e (some (.Subscript o idx pos')) pos.line X.env = pure false := by rfl) :
    PS X (.Assign [.Subscript o idx pos'] e pos) (TSof c r W (sDput i ek ea)) := PS.imp (ps_dput hu ho hi he hs) fun D σ H ⟨ads, G, env, R, h⟩ => by
  refine ⟨ads, G, env, R, Sat_mono (RE.so_Sat.mp h) (fun x e1 h1 ads1 G1 H1 v1 R1 s1 p1 => ?_) fun x e z => XC.of z⟩
  by_cases ol : isOwD e1[i]? = true
  rotate_left
  · rw [if_neg ol] at h1; exact h1.elim
  rw [if_pos ol] at h1
  have ol' : ∃ kvs, e1[i]? = some (some (.ow (.dct false kvs))) := by
    unfold isOwD at ol
    split at ol
    · rename_i kvs q; exact ⟨kvs, q⟩
    · cases ol
  obtain ⟨kvs0, q0⟩ := ol'
  obtain ⟨p, sp, _⟩ := slot_own R1 q0
  refine ⟨.ref p, sp, ads1, G1, e1, R1, Sat_mono (RE.so_Sat.mp h1) (fun y e2 h2 ads2 G2 H2 v2 R2 s2 p2 => ?_) fun x e z => XC.weak (XC.of z) s1.sub⟩
  cases x with
  | sl i => exact h2.elim
  | tr t =>
    cases y with
    | sl i => exact h2.elim
    | tr k =>
      cases q : e2[i]? with
      | none => simp only [q] at h2; exact h2.elim
      | some s =>
        cases s with
        | none => simp only [q] at h2; exact h2.elim
        | some a =>
          cases a with
          | t _ => simp only [q] at h2; exact h2.elim
          | ow w =>
            cases w with
            | dct tt kvs =>
              cases tt with
              | true => simp only [q] at h2; exact h2.elim
              | false =>
                simp only [q] at h2
                cases hk : keyOf k with
                | none => simp only [hk] at h2; exact h2.elim
                | some key =>
                  simp only [hk] at h2
                  by_cases hl : kvs.length < LIM
                  rotate_left
                  · rw [if_neg hl] at h2; exact h2.elim
                  rw [if_pos hl] at h2
                  obtain ⟨p', sp', ow⟩ := slot_own R2 q
                  rw [sp] at sp'
                  cases sp'
                  obtain ⟨had, hx⟩ := ow
                  rcases hx with ⟨_, ks, hH, rk⟩ | ⟨z, _⟩
                  · obtain ⟨rfl, ekk⟩ := keyOf_rep hk p2
                    have rt : Rep c G2 t v1 := Rep.mono s2.sub p1
                    refine ⟨p, _, rfl, DPut.k hH (by rw [rk.len]; exact Nat.lt_of_lt_of_le hl (lim_line (Nat.le_refl _))), ?_⟩
                    have own : p ∈ ads2 i := by rw [had]; exact List.mem_singleton.mpr rfl
                    have rput := rk.put (k := key) rt
                    rw [← ekk] at rput
                    have R3 := R2.write sp own hH (ho' := .dK (putK ks key v1)) (o := .dct false (putP kvs k t)) ⟨had, .inl ⟨rfl, _, upd_same, rput⟩⟩
                    exact h2 _ G2 _ _ R3 (s1.sub.trans s2.sub)
                  · cases z
            | _ => simp only [q] at h2; exact h2.elim
end
section
variable {X : Cx} {c : TC} {r : Ref} {W : WX} {e tg : Expr} {td : TE}
/-- a new dict, locked for good, its keys in their order -/
def iKeysN (td : TE) : TI := fun σ H R => td σ H fun x H1 => ∃ d kvs, x = .ref d ∧ H1 d = some (.dK kvs) ∧ ∀ od, R (Itk d od kvs) (upd H1 d (.frz od (.dK kvs)))
theorem pi_keysN (he : PE X e td) : PI X tg e (iKeysN td) := by
  refine ⟨fun pins s σ H R I h => thn (he.run pins s σ H _ I h) fun u s1 ⟨x, H1, I1, rx, d, kvs, ex, hd, q⟩ => ?_⟩
  subst ex
  obtain rfl : u = Value.ref d := rx
  obtain ⟨od, I2⟩ := I1.lock hd trivial
  obtain ⟨a1, a2, a3, es, ep, vs, a4, a5, a6, a7⟩ := I2.frzK (d := d) upd_same
  refine iter_keys a1 a2 a3 a4 (pi_one (tk := s1.toks) I2 _ (turn_keys _ a4) ⟨_, Heap.get?_push_size _ rfl, rfl, ?_⟩ (q od))
  rw [a5] <;> rfl
theorem RS.relay {ads : Nat → List Addr} {G H : Hp} {σ : L2.St} {env : En} (R : RS c r ads G H σ env) {p : Addr} {ho : HO} (hn : New r ads G p) : RS c r ads G (upd H p ho) σ env := by
  have ne : ∀ {a : Addr} {u : HO}, G a = some u → a ≠ p := fun {a u} e z => by rw [z, hn.1] at e; cases e
  refine ⟨⟨R.step.sub, fun a u e => by rw [upd_ne (ne e)]; exact R.step.sub1 a u e, R.step.new, fun a u hA e => ?_, fun a e => ?_⟩, R.len, fun j => (R.slot j).stay (Sub.refl _) fun b hb u e => ?_, R.own, R.disj, R.pin⟩
  · rw [upd_ne (fun z => by rw [z, hn.2.1] at e; cases e)]; exact R.step.keep a u hA e
  · by_cases z : a = p
    · rw [z, upd_same] at e; cases e
    · rw [upd_ne z] at e; exact R.step.there a e
  · rw [upd_ne (fun z => hn.2.2 j (by rw [← z]; exact hb))]; exact e
theorem RepK.keys : ∀ {G : Hp} {kvs : List (PV × PV)} {ks : List (Key × V)}, RepK c G kvs ks → kvs.map (·.1) = ks.map fun kv => keyP kv.1
  | _, [], _, h => by rw [show _ = _ from h]; rfl
  | G, (_, _) :: rest, _, h => by
    obtain ⟨q, v, s, rfl, rfl, _, hr⟩ := h
    rw [List.map_cons, List.map_cons, RepK.keys hr]
/-- texts as keys: good texts -/
def keyB : PV → Bool
  | .int _ => true
  | .str x => decide (x.length ≤ LIM) && PyData.strOk x
  | _ => false
theorem key_rep {G : Hp} {k : Key} (h : keyB (keyP k) = true) : Rep c G (keyP k) (kV k) := by
  cases k with
  | inl i => simp [keyP, kV, Rep]
  | inr x =>
    simp only [keyP, keyB, Bool.and_eq_true, decide_eq_true_iff] at h
    simp only [keyP, kV, Rep]
    exact ⟨trivial, lim_line h.1, h.2⟩
theorem itok_keys {G : Hp} {d : Addr} {od : Obj} {x : Vl} {ks : List (Key × V)} (h : G d = some (.frz od (.dK ks))) (hk : ∀ kv ∈ ks, keyB (keyP kv.1) = true) : ItOk c r G x (ks.map fun kv => keyP kv.1) (Itk d od ks) := fun i ads G' H σ env R s1 _ => by
  have hH := R.sub _ _ (s1 _ _ h)
  refine ⟨fun t ht => ?_, fun hl => ⟨hH, by simpa using hl⟩⟩
  rw [List.getElem?_map] at ht
  obtain ⟨kv, hkv, rfl⟩ := Option.map_eq_some_iff.mp ht
  refine ⟨⟨hH, (List.getElem?_eq_some_iff.mp hkv).1⟩, fun x H' y => ?_⟩
  obtain ⟨rfl, k, v, e, rfl⟩ := y
  rw [hkv] at e
  cases e
  exact ⟨G', Step.refl R.sub, key_rep (hk _ (List.mem_of_getElem? hkv))⟩
@[simp] def iKeyF (ef : EvF) : EvI := fun env => (ef env).bind fun o e => match o with
  | .dct false kvs => if (kvs.all fun kv => keyB kv.1) = true then .ok ⟨kvs.map (·.1), .tr .non⟩ e else .bad
  | _ => .bad
theorem ti_keyF {ef : EvF} (he : PE X e (TFof c r W ef)) : PI X tg e (TIof c r W (iKeyF ef)) := PI.imp (pi_keysN he) fun σ H K ⟨ads, G, env, R, h⟩ => by
  refine ⟨ads, G, env, R, Sat_mono (Sat_bind.mp h) (fun o e1 h1 ads1 G1 H1 p1 ad R1 s1 ow nw => ?_) fun _ _ z => z⟩
  cases o with
  | dct t kvs =>
    cases t with
    | true => exact h1.elim
    | false =>
      dsimp only at h1
      by_cases hk : (kvs.all fun kv => keyB kv.1) = true
      rotate_left
      · rw [if_neg hk] at h1; exact h1.elim
      rw [if_pos hk] at h1
      obtain ⟨had, hx⟩ := ow
      rcases hx with ⟨_, ks, hH, rk⟩ | ⟨z, _⟩
      · refine ⟨p1, ks, rfl, hH, fun od => ?_⟩
        obtain ⟨n1, n2⟩ := nw p1 (by rw [had]; exact List.mem_singleton.mpr rfl)
        have R2 : RS c r ads1 G1 (upd H1 p1 (.frz od (.dK ks))) σ e1 := R1.relay n1
        obtain ⟨s3, R3⟩ := R2.know (p := p1) (ho := .frz od (.dK ks)) upd_same n1
        have nx : Nxt ads G H ads1 G1 (upd H1 p1 (.frz od (.dK ks))) := ⟨s1.sub, fun a u e n => by
          have z := s1.hold a u e n
          refine ⟨?_, z.2⟩
          rw [upd_ne (fun w => by rw [w, n2] at e; cases e)]
          exact z.1, fun a e => by
          by_cases w : a = p1
          · rw [w, upd_same] at e; cases e
          · rw [upd_ne w] at e; exact s1.there a e⟩
        have ke := rk.keys
        have hk' : ∀ kv ∈ ks, keyB (keyP kv.1) = true := fun kv hm => by
          have : keyP kv.1 ∈ kvs.map (·.1) := by rw [ke]; exact List.mem_map.mpr ⟨kv, hm, rfl⟩
          obtain ⟨kv', hm', e'⟩ := List.mem_map.mp this
          have := List.all_eq_true.mp hk kv' hm'
          rw [e'] at this
          exact this
        have it : ItOk c r (upd G1 p1 (.frz od (.dK ks))) (.tr .non) (kvs.map (·.1)) (Itk p1 od ks) := by rw [ke]; exact itok_keys upd_same hk'
        exact h1 ads1 _ _ _ R3 (nx.fresh n1.1 n2) it
      · cases z
  | _ => exact h1.elim
end
end TreeL
end
section
/-! TL34: comprehensions with two clauses. -/
namespace TreeL
open PySem PySem.Spec PyProof.Rows L2
def comp2L (g : Tg) (et : EvT) (ev1 : EvI) (g1 : Tg) (et1 : EvT) (ea : EvE) (vs vs1 : List Nat) (al : En → Bool) : List PV → List PV → En → RE (List PV)
  | [], acc, env => if al env then .ok acc env else .bad
  | t :: ts, acc, env => if al env then (match g t env with
    | none => .bad
    | some e1 => match et e1 with
      | .ok b e2 => if b then (match ev1 e2 with
          | .ok w e3 => (match compL g1 et1 ea vs1 (alive w.at_ w.ts) w.ts acc (wipeE e3 vs1) with
            | .ok acc' e4 => comp2L g et ev1 g1 et1 ea vs vs1 al ts acc' (wipeE e4 vs)
            | _ => .bad)
          | _ => .bad) else comp2L g et ev1 g1 et1 ea vs vs1 al ts acc (wipeE e2 vs)
      | _ => .bad) else .bad
@[simp] def fComp2 (ev : EvI) (g : Tg) (et : EvT) (ev1 : EvI) (g1 : Tg) (et1 : EvT) (ea : EvE) (vs vs1 : List Nat) : EvF := fun env => (ev env).bind fun (w : Wk) e0 =>
  if noOwn e0 vs then (match comp2L g et ev1 g1 et1 ea vs vs1 (alive w.at_ w.ts) w.ts [] (wipeE e0 vs) with
    | .ok acc e1 => .ok (.lst acc) (unW e0 e1 vs)
    | _ => .bad) else .bad
section
variable {X : Cx} {c : TC} {r : Ref} {W : WX}
/-- where a comprehension's list stands within a loop -/
structure At (c : TC) (r : Ref) (D : Addr) (adsB : Nat → List Addr) (GB HB : Hp) (σ : L2.St) (ads : Nat → List Addr) (G H : Hp) (env : En) (acc : List PV) (va : List V) : Prop where
  rs : RS c r ads G H σ env
  hx : Hx D adsB GB HB ads G H
  at_ : H D = some (.lst va)
  rep : RepL c G acc va
  new : New r ads G D
theorem At.next {D : Addr} {adsB : Nat → List Addr} {GB HB : Hp} {σ : L2.St} {ads ads' : Nat → List Addr} {G H G' H' : Hp} {env env' : En} {acc : List PV} {va : List V} {σ' : L2.St} (a : At c r D adsB GB HB σ ads G H env acc va) (s : Nxt ads G H ads' G' H') (R : RS c r ads' G' H' σ' env') : At c r D adsB GB HB σ' ads' G' H' env' acc va := by
  have d := s.hold D _ a.at_ a.new.2.2
  exact ⟨R, a.hx.step s, d.1, a.rep.mono s.sub, ⟨d.2.2 a.new.1, a.new.2.1, d.2.1⟩⟩
theorem At.wiped {D : Addr} {adsB : Nat → List Addr} {GB HB : Hp} {σ : L2.St} {ads : Nat → List Addr} {G H : Hp} {env : En} {acc : List PV} {va : List V} {vs : List Nat} (a : At c r D adsB GB HB σ ads G H env acc va) (hp : ∀ j ∈ vs, (r.pins.map Prod.fst).contains j = false) : At c r D adsB GB HB (L2.wipe σ vs) (cutA ads vs) G H (wipeE env vs) acc va :=
  ⟨a.rs.wipes hp, a.hx.less cutA_sub, a.at_, a.rep, ⟨a.new.1, a.new.2.1, fun j m => a.new.2.2 j (cutA_sub j D m)⟩⟩
/-- the inner loop -/
theorem inner_core {K : RE (List PV) → Prop} (hbad : ¬ K .bad) (hexc : ∀ x e, ¬ K (.exc x e)) {us vs : List Nat} {g : Tg} {et : EvT} {ea : EvE} (hp : ∀ j ∈ vs, (r.pins.map Prod.fst).contains j = false) (hu : ∀ j ∈ us, j ∈ vs)
    {D : Addr} {adsB : Nat → List Addr} {GB HB : Hp} {σ : L2.St} {Nx : Hp → Prop} (hN : ∀ acc e ads G H va, K (.ok acc e) → At c r D adsB GB HB (L2.wipe σ vs) ads G H e acc va → Nx H)
    {Gw : Hp} {at_ : Vl} {ts : List PV} {J : It} (it : ItOk c r Gw at_ ts J) {ads0 : Nat → List Addr} {G0 H0 : Hp} {env0 : En} {acc0 : List PV} {va0 : List V} (a0 : At c r D adsB GB HB (L2.wipe σ vs) ads0 G0 H0 env0 acc0 va0) (sw : Sub Gw G0)
    (k0 : K (compL g et ea vs (alive at_ ts) ts acc0 env0)) :
    ∃ W1 : Nat → Nat → Hp → Prop, (∃ m, W1 0 m H0) ∧ ∀ j k H, W1 j k H →
      (J.stop j H ∧ Nx H) ∨ (J.go j H ∧ ∃ Nx1 : Hp → Prop, (∀ H', Nx1 H' → ∃ k', k' < k ∧ W1 (j + 1) k' H') ∧ ∀ x H', J.yld j H x H' → TGof c r us g x (L2.wipe σ vs) H' fun σ3 H5 => L2.wipe σ3 vs = L2.wipe σ vs ∧ TTof c r W0 et σ3 H5 fun b H6 =>
        if b = true then TEof c r W0 ea σ3 H6 fun y H7 => ∃ acc, H7 D = some (.lst acc) ∧ acc.length < sizeLine ∧ Nx1 (upd H7 D (.lst (acc ++ [y]))) else Nx1 H6) := by
  refine ⟨fun j k H => k = ts.length - j ∧ ∃ ads G env acc va, At c r D adsB GB HB (L2.wipe σ vs) ads G H env acc va ∧ Sub Gw G ∧ K (compL g et ea vs (alive at_ ts) (ts.drop j) acc env), ⟨_, rfl, ads0, G0, env0, acc0, va0, a0, sw, k0⟩, ?_⟩
  rintro j k H ⟨rfl, ads, G, env, acc, va, a, s, hk⟩
  by_cases al : alive at_ ts env = true
  rotate_left
  · cases q : ts.drop j with
    | nil => rw [q, compL, if_neg al] at hk; exact absurd hk hbad
    | cons t us => rw [q, compL, if_neg al] at hk; exact absurd hk hbad
  obtain ⟨go, stop⟩ := it j ads G H _ env a.rs s al
  cases q : ts[j]? with
  | none =>
    have hl : ts.length ≤ j := List.getElem?_eq_none_iff.mp q
    rw [List.drop_eq_nil_of_le hl, compL, if_pos al] at hk
    exact .inl ⟨stop hl, hN _ _ _ _ _ _ hk a⟩
  | some t =>
    obtain ⟨g1, g2⟩ := go t q
    have hlt : j < ts.length := (List.getElem?_eq_some_iff.mp q).1
    have hd : ts.drop j = t :: ts.drop (j + 1) := by rw [List.drop_eq_getElem_cons hlt, (List.getElem?_eq_some_iff.mp q).2]
    rw [hd, compL, if_pos al] at hk
    refine .inr ⟨g1, fun H' => ∃ ads G env acc va, At c r D adsB GB HB (L2.wipe σ vs) ads G H' env acc va ∧ Sub Gw G ∧ K (compL g et ea vs (alive at_ ts) (ts.drop (j + 1)) acc env), fun H' ⟨a1, a2, a3, a4, a5, a6⟩ => ⟨_, by omega, rfl, a1, a2, a3, a4, a5, a6⟩, fun x H' y => ?_⟩
    obtain ⟨G3, st, rx⟩ := g2 x H' y
    have b3 := a.next (Nxt.of (ads := ads) st) (a.rs.next st)
    cases qg : g t env with
    | none => rw [qg] at hk; exact absurd hk hbad
    | some e3 =>
      rw [qg] at hk
      refine ⟨ads, G3, env, t, e3, b3.rs, rx, qg, fun ads4 σ4 R4 l4 a4 b4 c4 => ?_⟩
      have sub4 : ∀ j a, a ∈ ads4 j → a ∈ ads j := fun j a m => by
        by_cases z : j ∈ us
        · rcases c4 j z with w | w
          · rw [w] at m; cases m
          · rw [w] at m; exact m
        · rw [b4 j z] at m; exact m
      have hw : L2.wipe σ4 vs = L2.wipe σ vs := by
        refine wipe_same (fun j hj => ?_) (by rw [l4, L2.wipe_length])
        rw [a4 j fun z => hj (hu j z)]
      have A4 : At c r D adsB GB HB σ4 ads4 G3 H' e3 acc va := ⟨R4, b3.hx.less sub4, b3.at_, b3.rep, ⟨b3.new.1, b3.new.2.1, fun j m => b3.new.2.2 j (sub4 j D m)⟩⟩
      refine ⟨hw, ads4, G3, e3, R4, ?_⟩
      simp only at hk
      cases qt : et e3 with
      | bad => rw [qt] at hk; exact absurd hk hbad
      | exc x e => rw [qt] at hk; exact absurd hk hbad
      | ok b e4 =>
        rw [qt] at hk
        simp only at hk
        intro ads5 G5 H5 R5 s5
        have A5 := A4.next s5 R5
        have sw5 := s.trans (st.sub.trans s5.sub)
        cases b with
        | false =>
          have A6 := A5.wiped hp
          rw [hw] at A6
          exact iteF ⟨_, _, _, _, _, A6, sw5, hk⟩
        | true =>
          refine iteT ⟨ads5, G5, e4, R5, ?_⟩
          simp only [if_true] at hk
          cases qe : ea e4 with
          | bad => rw [qe] at hk; exact absurd hk hbad
          | exc x e => rw [qe] at hk; exact absurd hk hbad
          | ok x e5 =>
            rw [qe] at hk
            cases x with
            | sl j => exact absurd hk hbad
            | tr tx =>
              simp only at hk
              by_cases hl : acc.length < LIM
              rotate_left
              · rw [if_neg hl] at hk; exact absurd hk hbad
              rw [if_pos hl] at hk
              intro ads6 G6 H6 v6 R6 s6 p6
              have A6 := A5.next s6 R6
              refine ⟨va, A6.at_, by rw [a.rep.length]; exact Nat.lt_of_lt_of_le hl (lim_line (Nat.le_refl _)), ?_⟩
              have A7 : At c r D adsB GB HB σ4 ads6 G6 (upd H6 D (.lst (va ++ [v6]))) e5 (acc ++ [tx]) (va ++ [v6]) := ⟨R6.scratch A6.new A6.at_, A6.hx.put, upd_same, A6.rep.append (RepL.one p6), A6.new⟩
              have A8 := A7.wiped hp
              rw [hw] at A8
              exact ⟨_, _, _, _, _, A8, sw5.trans s6.sub, hk⟩
theorem lc2_imp {ev ev1 : EvI} {us vs us1 vs1 : List Nat} {g g1 : Tg} {et et1 : EvT} {ea : EvE} (hp : ∀ j ∈ vs, (r.pins.map Prod.fst).contains j = false) (hu : ∀ j ∈ us, j ∈ vs) (hu1 : ∀ j ∈ us1, j ∈ vs1) (hv : ∀ j ∈ vs1, j ∈ vs) {σ : L2.St} {H : Hp} {Q : VK}
    (h : TFof c r W (fComp2 ev g et ev1 g1 et1 ea vs vs1) σ H Q) : tLc2 (TIof c r W ev) (TGof c r us g) (TTof c r W0 et) (TIof c r W0 ev1) (TGof c r us1 g1) (TTof c r W0 et1) (TEof c r W0 ea) vs vs1 σ H Q := by
  obtain ⟨ads, G, env, R, h⟩ := h
  refine ⟨ads, G, env, R, Sat_mono (Sat_bind.mp h) (fun w e0 h1 ads1 G1 H1 J R1 s1 it D hD => ?_) fun _ _ z => z⟩
  obtain ⟨ts, at_⟩ := w
  by_cases no : noOwn e0 vs = true
  rotate_left
  · rw [if_neg no] at h1; exact h1.elim
  rw [if_pos no] at h1
  have hp1 : ∀ j ∈ vs1, (r.pins.map Prod.fst).contains j = false := fun j hj => hp j (hv j hj)
  have nw := New.of R1 hD
  have Ri : At c r D ads1 G1 H1 (L2.wipe σ vs) (cutA ads1 vs) G1 (upd H1 D (.lst [])) (wipeE e0 vs) [] [] :=
    ⟨(R1.lay (ho := .lst []) hD).wipes hp, (Hx.put ⟨Sub.refl _, fun a o n e m => ⟨e, m, id⟩, fun a n e => e⟩).less cutA_sub, upd_same, RepL.nil, ⟨nw.1, nw.2.1, fun j m => nw.2.2 j (cutA_sub j D m)⟩⟩
  refine ⟨fun i m H' => m = ts.length - i ∧ ∃ ads' G' env' acc va, At c r D ads1 G1 H1 (L2.wipe σ vs) ads' G' H' env' acc va ∧
    (compEnd e0 vs (comp2L g et ev1 g1 et1 ea vs vs1 (alive at_ ts) (ts.drop i) acc env')).Sat (fun o env' => ∀ ads' G' H' p ad, RS c r ads' G' H' σ env' → Nxt ads G H ads' G' H' → OwRep c G' H' p ad o → (∀ a ∈ ad, New r ads' G' a ∧ H a = none) → Q (.ref p) H') (XC c r W G σ),
    ⟨_, rfl, _, _, _, [], [], Ri, h1⟩, ?_⟩
  rintro i m H2 ⟨rfl, ads2, G2, env2, acc, va, a2, h2⟩
  by_cases al : alive at_ ts env2 = true
  rotate_left
  · cases q : ts.drop i with
    | nil => rw [q, comp2L, if_neg al] at h2; exact h2.elim
    | cons t us => rw [q, comp2L, if_neg al] at h2; exact h2.elim
  obtain ⟨go, stop⟩ := it i ads2 G2 H2 _ env2 a2.rs a2.hx.sub al
  cases q : ts[i]? with
  | none =>
    have hl : ts.length ≤ i := List.getElem?_eq_none_iff.mp q
    rw [List.drop_eq_nil_of_le hl, comp2L, if_pos al] at h2
    have sB := a2.hx.nxt hD
    have RB := R1.back no a2.rs sB hp
    exact .inl ⟨stop hl, h2 (cutA ads2 vs) G2 H2 D [D] RB (s1.trans (sB.less cutA_sub)) ⟨rfl, va, a2.at_, a2.rep⟩ fun a ha => by rw [List.mem_singleton.mp ha]; exact ⟨⟨a2.new.1, a2.new.2.1, fun j m => a2.new.2.2 j (cutA_sub j D m)⟩, s1.there D hD⟩⟩
  | some t =>
    obtain ⟨y1, y2⟩ := go t q
    have hlt : i < ts.length := (List.getElem?_eq_some_iff.mp q).1
    have hd : ts.drop i = t :: ts.drop (i + 1) := by rw [List.drop_eq_getElem_cons hlt, (List.getElem?_eq_some_iff.mp q).2]
    rw [hd, comp2L, if_pos al] at h2
    refine .inr ⟨y1, fun H' => ∃ ads' G' env' acc va, At c r D ads1 G1 H1 (L2.wipe σ vs) ads' G' H' env' acc va ∧
      (compEnd e0 vs (comp2L g et ev1 g1 et1 ea vs vs1 (alive at_ ts) (ts.drop (i + 1)) acc env')).Sat (fun o env' => ∀ ads' G' H' p ad, RS c r ads' G' H' σ env' → Nxt ads G H ads' G' H' → OwRep c G' H' p ad o → (∀ a ∈ ad, New r ads' G' a ∧ H a = none) → Q (.ref p) H') (XC c r W G σ),
      fun H' ⟨b1, b2, b3, b4, b5, b6⟩ => ⟨_, by omega, rfl, b1, b2, b3, b4, b5, b6⟩, fun x H' y => ?_⟩
    obtain ⟨G3, st, rx⟩ := y2 x H' y
    have b3 := a2.next (Nxt.of (ads := ads2) st) (a2.rs.next st)
    cases qg : g t env2 with
    | none => rw [qg] at h2; exact h2.elim
    | some e3 =>
      rw [qg] at h2
      refine ⟨ads2, G3, env2, t, e3, b3.rs, rx, qg, fun ads4 σ4 R4 l4 a4 b4 c4 => ?_⟩
      have sub4 : ∀ j a, a ∈ ads4 j → a ∈ ads2 j := fun j a m => by
        by_cases z : j ∈ us
        · rcases c4 j z with w | w
          · rw [w] at m; cases m
          · rw [w] at m; exact m
        · rw [b4 j z] at m; exact m
      have hw : L2.wipe σ4 vs = L2.wipe σ vs := wipe_same (fun j hj => a4 j fun z => hj (hu j z)) (by rw [l4, L2.wipe_length])
      have A4 : At c r D ads1 G1 H1 σ4 ads4 G3 H' e3 acc va := ⟨R4, b3.hx.less sub4, b3.at_, b3.rep, ⟨b3.new.1, b3.new.2.1, fun j m => b3.new.2.2 j (sub4 j D m)⟩⟩
      refine ⟨hw, ads4, G3, e3, R4, ?_⟩
      simp only at h2
      cases qt : et e3 with
      | bad => rw [qt] at h2; exact h2.elim
      | exc x e => rw [qt] at h2; exact h2.elim
      | ok b e4 =>
        rw [qt] at h2
        simp only at h2
        intro ads5 G5 H5 R5 s5
        have A5 := A4.next s5 R5
        cases b with
        | false =>
          have A6 := A5.wiped hp
          rw [hw] at A6
          exact iteF ⟨_, _, _, _, _, A6, h2⟩
        | true =>
          simp only [if_true] at h2
          refine iteT ⟨ads5, G5, e4, R5, ?_⟩
          cases qi : ev1 e4 with
          | bad => rw [qi] at h2; exact h2.elim
          | exc x e => rw [qi] at h2; exact h2.elim
          | ok w1 e5 =>
            rw [qi] at h2
            simp only at h2
            intro ads6 G6 H6 J1 R6 s6 it1
            have A6 := (A5.next s6 R6).wiped hp1
            have hww : L2.wipe (L2.wipe σ4 vs1) vs = L2.wipe σ vs := by
              rw [← hw]
              refine wipe_same (fun j hj => ?_) (L2.wipe_length _ _)
              rw [L2.wipe_out fun m => hj (hv j m), L2.wipe_out hj]
            exact inner_core (K := fun x => (compEnd e0 vs (match x with
                | .ok acc' e4 => comp2L g et ev1 g1 et1 ea vs vs1 (alive at_ ts) (ts.drop (i + 1)) acc' (wipeE e4 vs)
                | _ => .bad)).Sat (fun o env' => ∀ ads' G' H' p ad, RS c r ads' G' H' σ env' → Nxt ads G H ads' G' H' → OwRep c G' H' p ad o → (∀ a ∈ ad, New r ads' G' a ∧ H a = none) → Q (.ref p) H') (XC c r W G σ))
              (fun z => z) (fun _ _ z => z) hp1 hu1 (fun acc e ads G H va hk a => by
                have a' := a.wiped hp
                rw [hww] at a'
                exact ⟨_, _, _, _, _, a', hk⟩) it1 A6 (Sub.refl _) h2
theorem pf_lc2 {elt tg iter tg1 iter1 : Expr} {ifs ifs1 : List Expr} {scope : Scope} {own : List (Str × Nat)} {pos : Pos} {ev ev1 : EvI} {us us1 vs1 : List Nat} {g g1 : Tg} {et et1 : EvT} {ea : EvE} (hc : X.calm = true) (hN : X.N.Nodup) (hp : ∀ j ∈ own.map (·.2), (r.pins.map Prod.fst).contains j = false) (hu : ∀ j ∈ us, j ∈ own.map (·.2)) (hu1 : ∀ j ∈ us1, j ∈ vs1) (hv : ∀ j ∈ vs1, j ∈ own.map (·.2)) (hi : PI X tg iter (TIof c r W ev)) (ok : BlkOk X.N X.env.scope scope own)
    (hg : ∀ (s : Shared) (H : Hp) (C : Addr) (cl : List (Str × Addr)) (fp : List Addr), PG (X.blk s H scope (compEnvC scope cl C X.env) fp) tg (TGof c r us g)) (ht : ∀ (s : Shared) (H : Hp) (C : Addr) (cl : List (Str × Addr)) (fp : List Addr), PTs (X.blk s H scope (compEnvC scope cl C X.env) fp) ifs (TTof c r W0 et))
    (hi1 : ∀ (s : Shared) (H : Hp) (C : Addr) (cl : List (Str × Addr)) (fp : List Addr), PI (X.blk s H scope (compEnvC scope cl C X.env) fp) tg1 iter1 (TIof c r W0 ev1))
    (hg1 : ∀ (s : Shared) (H : Hp) (C : Addr) (cl : List (Str × Addr)) (fp : List Addr), PG (X.blk s H scope (compEnvC scope cl C X.env) fp) tg1 (TGof c r us1 g1)) (ht1 : ∀ (s : Shared) (H : Hp) (C : Addr) (cl : List (Str × Addr)) (fp : List Addr), PTs (X.blk s H scope (compEnvC scope cl C X.env) fp) ifs1 (TTof c r W0 et1))
    (he : ∀ (s : Shared) (H : Hp) (C : Addr) (cl : List (Str × Addr)) (fp : List Addr), PE (X.blk s H scope (compEnvC scope cl C X.env) fp) elt (TEof c r W0 ea)) (hs : ∀ x, foldedSetIterable iter X.env x = pure x := by intro _; rfl) (hs1 : ∀ env x, foldedSetIterable iter1 env x = pure x := by intro _ _; rfl) :
    PE X (.ListComp elt [⟨tg, iter, ifs, 0⟩, ⟨tg1, iter1, ifs1, 0⟩] scope pos) (TFof c r W (fComp2 ev g et ev1 g1 et1 ea (own.map (·.2)) vs1)) := PE.imp (pe_lc2 hc hN hi ok hv hg ht hi1 hg1 ht1 he hs hs1) fun _ _ _ h => lc2_imp hp hu hu1 hv h
end
end TreeL
end
section
/-! TL35: sorted texts; a comprehension with two clauses put to a name. -/
namespace TreeL
open PySem PySem.Spec PyProof.Rows L2
def leS (a b : Str) : Bool := decide (a.cps.toList ≤ b.cps.toList)
theorem leS_lt (a b : Str) : leS a b = !ltCps b.cps.toList a.cps.toList := by
  unfold leS
  rw [ltCps_eq]
  by_cases h : b.cps.toList < a.cps.toList
  · rw [decide_eq_true h, decide_eq_false (List.not_le.mpr h)]; rfl
  · rw [decide_eq_false h, decide_eq_true (List.not_lt.mp h)]; rfl
theorem leS_trans (a b c : Str) (h1 : leS a b = true) (h2 : leS b c = true) : leS a c = true := by
  unfold leS at *
  exact decide_eq_true (List.le_trans (of_decide_eq_true h1) (of_decide_eq_true h2))
theorem leS_total (a b : Str) : (leS a b || leS b a) = true := by
  unfold leS
  rcases List.le_total a.cps.toList b.cps.toList with h | h
  · rw [decide_eq_true h]; rfl
  · rw [decide_eq_true h, Bool.or_true]
theorem leS_anti (a b : Str) (h1 : leS a b = true) (h2 : leS b a = true) : a = b := by
  unfold leS at *
  have e := List.le_antisymm (of_decide_eq_true h1) (of_decide_eq_true h2)
  cases a with
  | mk x =>
    cases b with
    | mk y =>
      have : x = y := by
        cases x; cases y
        simpa using e
      rw [this]
def sortS (ss : List Str) : List Str := ss.mergeSort leS
theorem rising_pw : ∀ (l : List Str) (p : Str), risingS p l = true → (p :: l).Pairwise fun a b => leS a b = true
  | [], p, _ => by simp
  | x :: r, p, h => by
    rw [risingS, Bool.and_eq_true, ← leS_lt] at h
    have ih := rising_pw r x h.2
    refine List.pairwise_cons.mpr ⟨fun y hy => ?_, ih⟩
    rcases List.mem_cons.mp hy with e | e
    · rw [e]; exact h.1
    · exact leS_trans _ _ _ h.1 ((List.pairwise_cons.mp ih).1 y e)
theorem sorted_pw {l : List Str} (h : sortedS l = true) : l.Pairwise fun a b => leS a b = true := by
  cases l with
  | nil => exact .nil
  | cons x r => exact rising_pw r x h
theorem sort_only {ys xs : List Str} (hp : ys.Perm xs) (hs : sortedS ys = true) : ys = sortS xs :=
  List.Perm.eq_of_pairwise (le := fun a b => leS a b = true) (fun a b _ _ h1 h2 => leS_anti a b h1 h2) (sorted_pw hs) (List.pairwise_mergeSort leS_trans leS_total xs) (hp.trans (List.mergeSort_perm xs leS).symm)
def sortedF : List PV → Option Arg
  | [.lst xs] => (strsP xs).bind fun ss => if ss.length < 64 then some (.ow (.lst ((sortS ss).map .str))) else none
  | _ => none
section
variable {X : Cx} {c : TC} {r : Ref} {W : WX}
theorem strs_back {G : Hp} : ∀ {bs : List Str}, (∀ y ∈ bs, StrG y) → RepL c G (bs.map PV.str) (bs.map V.str)
  | [], _ => RepL.nil
  | b :: bs, h => ⟨.str b, _, rfl, by simp only [Rep]; exact ⟨trivial, h b List.mem_cons_self⟩, strs_back fun y hy => h y (List.mem_cons_of_mem _ hy)⟩
theorem bu_sorted (hK : X.K = c.K) : CallQ X c (.builtin "sorted") sortedF := fun G H ts t vs Q e s p q => by
  unfold sortedF at e
  split at e
  · obtain ⟨v, rfl, a, ws, rfl, hx, rr⟩ := pair1 p
    rename_i xs
    cases z : strsP xs with
    | none => rw [z] at e; cases e
    | some ss =>
      rw [z] at e
      obtain ⟨hl, e⟩ := ite_some e
      cases e
      obtain ⟨rfl, hg⟩ := strs_rep rr z
      refine ⟨_, cr_sortedS, a, ss, rfl, .inl (.inl hx), hl, fun ys b hp hs hb => ?_⟩
      rw [sort_only hp hs]
      refine q.list (strs_back fun y hy => hg y ?_) b hb
      exact (List.mergeSort_perm ss leS).mem_iff.mp hy
  · cases e
section
variable {elt tg iter tg1 iter1 : Expr} {ifs ifs1 : List Expr} {scope : Scope} {own : List (Str × Nat)} {pos : Pos} {ev ev1 : EvI} {us us1 vs1 : List Nat} {g g1 : Tg} {et et1 : EvT} {ea : EvE} {i : Nat} {y : Str} {py spos : Pos}
theorem ts_ownLc2 (hc : X.calm = true) (hN : X.N.Nodup) (hy : X.N[i]? = some y) (hyl : X.env.scope.names.lookup y = some .local) (hpi : (r.pins.map Prod.fst).contains i = false)
    (hsw : swapsWith (.ListComp elt [⟨tg, iter, ifs, 0⟩, ⟨tg1, iter1, ifs1, 0⟩] scope pos) (some (.Name y py)) spos.line X.env = pure true) (hp : ∀ j ∈ own.map (·.2), (r.pins.map Prod.fst).contains j = false) (hu : ∀ j ∈ us, j ∈ own.map (·.2)) (hu1 : ∀ j ∈ us1, j ∈ vs1) (hv : ∀ j ∈ vs1, j ∈ own.map (·.2)) (hi : PI X tg iter (TIof c r W ev)) (ok : BlkOk X.N X.env.scope scope own)
    (hg : ∀ (s : Shared) (H : Hp) (C : Addr) (cl : List (Str × Addr)) (fp : List Addr), PG (X.blk s H scope (compEnvC scope cl C X.env) fp) tg (TGof c r us g)) (ht : ∀ (s : Shared) (H : Hp) (C : Addr) (cl : List (Str × Addr)) (fp : List Addr), PTs (X.blk s H scope (compEnvC scope cl C X.env) fp) ifs (TTof c r W0 et))
    (hi1 : ∀ (s : Shared) (H : Hp) (C : Addr) (cl : List (Str × Addr)) (fp : List Addr), PI (X.blk s H scope (compEnvC scope cl C X.env) fp) tg1 iter1 (TIof c r W0 ev1))
    (hg1 : ∀ (s : Shared) (H : Hp) (C : Addr) (cl : List (Str × Addr)) (fp : List Addr), PG (X.blk s H scope (compEnvC scope cl C X.env) fp) tg1 (TGof c r us1 g1)) (ht1 : ∀ (s : Shared) (H : Hp) (C : Addr) (cl : List (Str × Addr)) (fp : List Addr), PTs (X.blk s H scope (compEnvC scope cl C X.env) fp) ifs1 (TTof c r W0 et1))
    (he : ∀ (s : Shared) (H : Hp) (C : Addr) (cl : List (Str × Addr)) (fp : List Addr), PE (X.blk s H scope (compEnvC scope cl C X.env) fp) elt (TEof c r W0 ea)) (hs : ∀ x, foldedSetIterable iter X.env x = pure x := by intro _; rfl) (hs1 : ∀ env x, foldedSetIterable iter1 env x = pure x := by intro _ _; rfl) :
    PS X (.Assign [.Name y py] (.ListComp elt [⟨tg, iter, ifs, 0⟩, ⟨tg1, iter1, ifs1, 0⟩] scope pos) spos) (TSof c r W (sOwn i (fComp2 ev g et ev1 g1 et1 ea (own.map (·.2)) vs1))) := PS.imp (ps_setLc2 hc hN hy hyl hsw hi ok hv hg ht hi1 hg1 ht1 he hs hs1) fun D σ H ⟨ads, G, env, R, h⟩ => by
  have z := own_imp hpi (ef := fComp2 ev g et ev1 g1 et1 ea (own.map (·.2)) vs1) ⟨ads, G, env, R, h⟩
  exact lc2_imp hp hu hu1 hv z
theorem ts_setLc2 (hc : X.calm = true) (hN : X.N.Nodup) (hy : X.N[i]? = some y) (hyl : X.env.scope.names.lookup y = some .local) (hpi : (r.pins.map Prod.fst).contains i = false)
    (hsw : swapsWith (.ListComp elt [⟨tg, iter, ifs, 0⟩, ⟨tg1, iter1, ifs1, 0⟩] scope pos) (some (.Name y py)) spos.line X.env = pure true) (hp : ∀ j ∈ own.map (·.2), (r.pins.map Prod.fst).contains j = false) (hu : ∀ j ∈ us, j ∈ own.map (·.2)) (hu1 : ∀ j ∈ us1, j ∈ vs1) (hv : ∀ j ∈ vs1, j ∈ own.map (·.2)) (hi : PI X tg iter (TIof c r W ev)) (ok : BlkOk X.N X.env.scope scope own)
    (hg : ∀ (s : Shared) (H : Hp) (C : Addr) (cl : List (Str × Addr)) (fp : List Addr), PG (X.blk s H scope (compEnvC scope cl C X.env) fp) tg (TGof c r us g)) (ht : ∀ (s : Shared) (H : Hp) (C : Addr) (cl : List (Str × Addr)) (fp : List Addr), PTs (X.blk s H scope (compEnvC scope cl C X.env) fp) ifs (TTof c r W0 et))
    (hi1 : ∀ (s : Shared) (H : Hp) (C : Addr) (cl : List (Str × Addr)) (fp : List Addr), PI (X.blk s H scope (compEnvC scope cl C X.env) fp) tg1 iter1 (TIof c r W0 ev1))
    (hg1 : ∀ (s : Shared) (H : Hp) (C : Addr) (cl : List (Str × Addr)) (fp : List Addr), PG (X.blk s H scope (compEnvC scope cl C X.env) fp) tg1 (TGof c r us1 g1)) (ht1 : ∀ (s : Shared) (H : Hp) (C : Addr) (cl : List (Str × Addr)) (fp : List Addr), PTs (X.blk s H scope (compEnvC scope cl C X.env) fp) ifs1 (TTof c r W0 et1))
    (he : ∀ (s : Shared) (H : Hp) (C : Addr) (cl : List (Str × Addr)) (fp : List Addr), PE (X.blk s H scope (compEnvC scope cl C X.env) fp) elt (TEof c r W0 ea)) (hs : ∀ x, foldedSetIterable iter X.env x = pure x := by intro _; rfl) (hs1 : ∀ env x, foldedSetIterable iter1 env x = pure x := by intro _ _; rfl) :
    PS X (.Assign [.Name y py] (.ListComp elt [⟨tg, iter, ifs, 0⟩, ⟨tg1, iter1, ifs1, 0⟩] scope pos) spos) (TSof c r W (sAsg (eOf (fComp2 ev g et ev1 g1 et1 ea (own.map (·.2)) vs1)) (gNm i))) := PS.imp (ps_setLc2 hc hN hy hyl hsw hi ok hv hg ht hi1 hg1 ht1 he hs hs1) fun D σ H h =>
  lc2_imp hp hu hu1 hv (of_imp (set_imp hpi h))
end
end
end TreeL
end
section
/-! TL36: slices as values: what isinstance says of them. -/
namespace TreeL
open PySem PySem.Spec PyProof.Rows L2
/-! ### facts about the class slice -/
theorem slcLk : typeLookup (.type "slice") "__class__" = pure (some (.builtin "object.__class__")) := by rw [typeLookup_type, builtinLookup_eq_fast]; kernel_rfl
theorem slcSo : isSubtype (.type "slice") (.type (".".intercalate ("object.__class__".cutAt '.').dropLast)) = pure true := by rw [PySem.F.owner_object_class, isSubtype_type]; kernel_rfl
theorem slcNb : (Value.type "slice" == Value.type "builtin_function_or_method") = false := by decide +kernel
theorem slcEntry : entryFor table "slice.__getattribute__" = some Builtin.«object.__getattribute__» := by
  apply entryFor_alias (id' := "object.__getattribute__")
  · kernel_rfl
  · first | rfl | decide +kernel
  · decide +kernel
  · kernel_rfl
theorem slcSlot : Slot "slice" "__getattribute__" "slice.__getattribute__" := by
  apply Slot.of (owner := "slice") (n := "__getattribute__")
  · rw [typeLookup_type, builtinLookup_eq_fast]; kernel_rfl
  · decide +kernel
  · decide +kernel
  · decide +kernel
  · first | exact .inl (by decide +kernel) | exact .inr (by decide +kernel)
  · rw [isSubtype_type]; kernel_rfl
theorem slcArgs (a b : Value) : argsOk "slice.__getattribute__" ⟨[a, b], []⟩ := by kernel_rfl
section
variable {prog : Program} {w : World} {A : Around} {E : Value → Shared → Prop} {h : Heap} {g : Array GenState} {d : Drawn} {t : Nat} {os : OsState} {a : Addr} {o : Obj}
theorem slcCall {tk : Tok} {R : Result → Shared → Prop} (hx : h.get? a = some o) (hc : o.cls = .type "slice") (hq : R (.ok (.ret (.type "slice"))) ⟨h, g, d, t, os⟩) :
    codeAny (model prog w) A (.call (.builtin "slice.__getattribute__") ⟨[.ref a, .str "__class__" tk], []⟩) R ⟨h, g, d, t, os⟩ := by
  have z : (⟨h, g, d, t, os⟩ : Shared).TypeIs (.ref a) "slice" := ⟨o, hx, hc⟩
  refine codeAny_call_builtin slcSlot.plain slcEntry ?_
  refine slcSlot.check _ _ _ _ _ _ _ _ z (slcArgs _ _) ?_
  exact PySem.class_entry_exc slcLk slcSo slcNb hx hc hq
theorem slcBy {tk : Tok} {Q : Value → Shared → Prop} (hx : h.get? a = some o) (hc : o.cls = .type "slice") (hq : Q (.type "slice") ⟨h, g, d, t, os⟩) : wpAny (model prog w) A (getAttrBy (.ref a) (.str "__class__" tk) false) Q E ⟨h, g, d, t, os⟩ := by
  have z : (⟨h, g, d, t, os⟩ : Shared).TypeIs (.ref a) "slice" := ⟨o, hx, hc⟩
  have l1 := slcSlot.lookup
  have l2 := slcSlot.bind (.ref a)
  repeat (any_goals (first | assumption | wp_step))
  apply slcCall hx hc
  repeat (any_goals (first | assumption | wp_step))
theorem slcAttr {Q : Option Value → Shared → Prop} (hx : h.get? a = some o) (hc : o.cls = .type "slice") (hq : Q (some (.type "slice")) ⟨h, g, d, t + 1, os⟩) : wpAny (model prog w) A (getAttr? (.ref a) "__class__") Q E ⟨h, g, d, t, os⟩ := by
  unfold getAttr? getAttrBy?
  repeat (any_goals (first | assumption | (with_reducible apply slcBy hx hc) | wp_step))
end
theorem kitx_slc {K : PySem.W.Frag} {a : Addr} : PySem.W.KitX K (.ref a) (.type "slice") (PySem.W.KitAt a "slice") := by
  refine PySem.W.kitx_of PySem.W.kitAt_ty fun {_ _ _ _ _ s} p k => ?_
  obtain ⟨h, g, d, t, os⟩ := s
  obtain ⟨o, h1, h2⟩ := p
  exact slcAttr h1 h2 k
/-- the slice object at p -/
abbrev slcObj (vl vu : Value) : Obj := { cls := .type "slice", data := .fields #[vl, vu, .none] }
/-! ### a slice as a value -/
@[simp] def eSlcE (lo hi : EvO) : EvE := fun env => (lo env).bind fun l e1 => (hi e1).bind fun h e2 => .ok (.tr (.slc l h)) e2
section
variable {X : Cx} {c : TC} {r : Ref} {W : WX} {a b : Expr} {ea eb : EvE} {lo hi : Option Expr} {ol oh : EvO} {pos p2 : Pos}
theorem pt_slcE (hl : PO X lo (TOof c r W ol)) (hh : PO X hi (TOof c r W oh)) : PE X (.Slice lo hi none p2) (TEof c r W (eSlcE ol oh)) := ⟨fun pins s σ H Q I h => by
  obtain ⟨ads, G, env, R, h⟩ := h
  refine wpAny_Slice (thn (hl.run pins s σ H (fun l H1 => ∃ ads1 G1 e1, RS c r ads1 G1 H1 σ e1 ∧ Nxt ads G H ads1 G1 H1 ∧ ((oh e1).bind fun h e2 => RE.ok (Vl.tr (.slc l h)) e2).Sat (fun x env' => ∀ ads' G' H' v, RS c r ads' G' H' σ env' → Nxt ads G H ads' G' H' → VRep c σ G' x v → Q v H') (XC c r W G σ))
    I ⟨ads, G, env, R, Sat_mono (Sat_bind.mp h) (fun l e1 h1 ads1 G1 H1 R1 s1 => ⟨ads1, G1, e1, R1, s1, h1⟩) fun _ _ z => z⟩) fun vl s1 hv => ?_)
  obtain ⟨l, H1, I1, pl, ads1, G1, e1, R1, n1, h1⟩ := hv
  refine thn (hh.run pins s1 σ H1 (fun u H2 => ∃ ads2 G2 e2, RS c r ads2 G2 H2 σ e2 ∧ Nxt ads G H ads2 G2 H2 ∧ (∀ ads' G' H' v, RS c r ads' G' H' σ e2 → Nxt ads G H ads' G' H' → VRep c σ G' (.tr (.slc l u)) v → Q v H'))
    I1 ⟨ads1, G1, e1, R1, Sat_mono (Sat_bind.mp h1) (fun u e2 h2 ads2 G2 H2 R2 s2 => ⟨ads2, G2, e2, R2, n1.trans s2, h2⟩) fun x e z => z.weak n1.sub⟩) fun vu s2 hv2 => ?_
  obtain ⟨u, H2, I2, pu, ads2, G2, e2, R2, n2, h2⟩ := hv2
  rw [evalPart_none]
  refine wpAny_pure ?_
  have hD : H2 s2.heap.objs.size = none := I2.hok.fresh (Nat.le_refl _)
  have ga : (s2.heap.push (slcObj vl vu)).get? s2.heap.objs.size = some (slcObj vl vu) := Heap.get?_push_size _ rfl
  have I3 : Inv X pins σ (upd H2 s2.heap.objs.size (.frz (slcObj vl vu) (.own s2.heap.objs.size))) { s2 with heap := s2.heap.push (slcObj vl vu) } :=
    I2.laid (t' := s2.toks) (fun b ob q => Heap.get?_push_of_some _ q) (Nat.le_refl _) ⟨ga, _, ga⟩
  have stp := Step.alloc (o := .frz (slcObj vl vu) (.own s2.heap.objs.size)) R2.sub hD
  refine ⟨.ref s2.heap.objs.size, _, I3, rfl, h2 ads2 _ _ _ (R2.next stp) (n2.trans (Nxt.of stp)) ?_⟩
  simp only [VRep, Rep]
  exact ⟨_, vl, vu, rfl, pl, pu, upd_same⟩⟩
/-! ### a tuple's slice by a value -/
theorem ixSl : IxR X (fun x y H Q => ∃ p vl vu lo hi, y = .ref p ∧ H p = some (.frz (slcObj vl vu) (.own p)) ∧ IsPart vl lo ∧ IsPart vu hi ∧ rAnySl X x lo hi H Q) := fun value slice pins s σ H x y v u Q I rx ry q hs => by
  obtain ⟨p, vl, vu, lo, hi, rfl, hp, pl, pu, q⟩ := q
  obtain rfl := (show u = Value.ref p from ry)
  have z : s.heap.IsSliceOf p vl vu .none := ⟨_, (I.hok p _ hp).1, rfl, rfl⟩
  obtain ⟨T, id, hT, ht, hg⟩ := slAny pins s σ H x v vl vu lo hi p Q I rx z pl pu q
  exact tail_any (ops := [v, .ref p]) ht hT hg hs
@[simp] def rIxS (ea eb : EvE) : EvR := fun env => (ea env).bind fun x e1 => (eb e1).bind fun y e2 => match look e2 x, look e2 y with
  | some t1, some t2 => (match t2 with
    | .slc l h => ofO (slA t1 l h) e2
    | _ => ofO ((ixP t1 t2).map Arg.t) e2)
  | _, _ => .bad
theorem tr_ixS (hK : X.K = c.K) (ha : PE X a (TEof c r W ea)) (hb : PE X b (TEof c r W eb)) (hs : PlainIx b) : PE X (.Subscript a b pos) (TRof c r W (rIxS ea eb)) := PE.imp (pe_ix ixAny ha hb hs) fun σ H Q ⟨ads, G, env, R, h⟩ => by
  refine ⟨ads, G, env, R, Sat_mono (Sat_bind.mp h) (fun x e1 h1 ads1 G1 H1 v1 R1 s1 p1 => ?_) fun _ _ z => z⟩
  refine ⟨ads1, G1, e1, R1, Sat_mono (Sat_bind.mp h1) (fun y e2 h2 ads2 G2 H2 v2 R2 s2 p2 => ?_) fun x e z => z.weak s1.sub⟩
  cases q1 : look e2 x with
  | none => rw [q1] at h2; exact h2.elim
  | some t1 =>
    rw [q1] at h2
    cases q2 : look e2 y with
    | none => rw [q2] at h2; exact h2.elim
    | some t2 =>
      rw [q2] at h2
      have w1 := look_rep R2 (p1.mono s2.sub) q1
      have w2 := look_rep R2 p2 q2
      have other : ((ofO ((ixP t1 t2).map Arg.t) e2 : RE Arg).Sat (fun o env' => ∀ ads' G' H' v, RS c r ads' G' H' σ env' → Nxt ads G H ads' G' H' → ResNew c r ads' G' H H' o v → Q v H') (XC c r W G σ)) → rAnyIx X v1 v2 H2 Q := fun h3 => by
        obtain ⟨t, ht, h4⟩ := Sat_ofO.mp h3
        obtain ⟨t', ht', rfl⟩ := Option.map_eq_some_iff.mp ht
        exact ix_ok hK ht' R2.sub w1 w2 fun v H' G' st p => h4 ads2 G' H' v (R2.next st) ((s1.trans s2).trans (Nxt.of st)) p
      cases t2 with
      | slc l hh =>
        obtain ⟨t, ht, h4⟩ := Sat_ofO.mp h2
        obtain ⟨p, vl, vu, rfl, pl, pu, hg⟩ := w2
        exact ⟨_, ixSl, p, vl, vu, l, hh, rfl, R2.sub _ _ hg, pl, pu, sl_ok hK ht R2.sub w1 (QOut.res R2 (s1.trans s2) h4)⟩
      | _ => exact other h2
end
end TreeL
end
section
/-! TL37: isinstance of slices; a += b by an own __add__. -/
namespace TreeL
open PySem PySem.Spec PyProof.Rows L2
/-- the class itself, then object -/
def twoMro (K : PySem.W.Frag) (C : Addr) : Bool := match PySem.W.clsIn K C with
  | some cd => cd.mro == [.ref C, .type "object"]
  | none => false
theorem slcInt {K : PySem.W.Frag} : PySem.W.kitOne K (.type "slice") (.type "int") = some false := by first | rfl | decide +kernel | kernel_rfl
theorem objAdd : typeLookup (.type "object") (dunderI (Operator.info .Add).2) = pure none := by rw [typeLookup_type, builtinLookup_eq_fast]; kernel_rfl
def noIadd (C : PySem.Str) (K : PySem.W.Frag) : Bool := twoMro K (He.ga K C) && He.eqO (PySem.W.findIn K (.ref (He.ga K C)) (dunderI (Operator.info .Add).2)) (some none)
theorem noIadd_ok {C : PySem.Str} {K : PySem.W.Frag} (h : noIadd C K = true) : twoMro K (He.ga K C) = true ∧ PySem.W.findIn K (.ref (He.ga K C)) (dunderI (Operator.info .Add).2) = some none := by
  unfold noIadd at h
  rw [Bool.and_eq_true] at h
  exact ⟨h.1, He.eqO_ok h.2⟩
/-! ### isinstance -/
@[simp] def eIsX (sb : Option Bool) (tb : Kd → Option Bool) (ks : List Nat) (ea : EvE) : EvE := fun env => (ea env).bind fun x e => match look e x with
  | some t => (match t with
    | .slc _ _ => (ofO sb e).bind fun b e => .ok (.tr (.bl b)) e
    | _ => (ofO (isiF tb ks t) e).bind fun b e => .ok (.tr (.bl b)) e)
  | none => .bad
section
variable {X : Cx} {c : TC} {r : Ref} {W : WX} {e cl : Expr} {ea : EvE} {tb : Kd → Option Bool} {ks : List Nat} {pos p : Pos}
def rIsS (K : PySem.W.Frag) : List V → Hp → VK → Prop := fun xs H Q => ∃ (a : Addr) (vl vu : Value) (c : V) (u : Value) (b : Bool), xs = [.ref a, c] ∧ ClsV c u ∧ H a = some (.frz (slcObj vl vu) (.own a)) ∧ PySem.W.kitOne K (.type "slice") u = some b ∧ Q (.bl b) H
theorem call_isS : CallR X (.builtin "isinstance") (fun xs H Q => rIsi X.K xs H Q ∨ rIsS X.K xs H Q) := by
  intro pins s σ H xs us Q I r h
  rcases h with h | h
  · exact call_isi pins s σ H xs us Q I r h
  · obtain ⟨a, vl, vu, c, u, b, rfl, k, ha, e, q⟩ := h
    obtain ⟨u1, u2, rfl, r1, r2⟩ := vals2 r
    have e2 := k.eq r2
    subst e2
    obtain rfl := (show u1 = Value.ref a from r1)
    exact PySem.W.kia_one kitx_slc I.kIn ⟨_, (I.hok a _ ha).1, rfl⟩ e (fun z => nomatch z) fun tk => ⟨.bl b, H, I.tok tk, rfl, q⟩
theorem pt_isX {u : Value} {v : V} {sb : Option Bool} (hs : ∀ b, sb = some b → PySem.W.kitOne c.K (.type "slice") u = some b) (hK : X.K = c.K) (hk : ∀ k ∈ ks, IsiC c.K (c.C k)) (hu : ClsV v u) (ht : ∀ d b, (∀ k, d = .ins k → ks.contains k = true) → tb d = some b → PySem.W.kitOne c.K (tyVal c d) u = some b) (hg : Gl X "isinstance") (hm : X.mg "isinstance" = none) (he : PE X e (TEof c r W ea)) (hcl : PE X cl (tC v))
    (h1 : starEach [e, cl] X.env = (false, eval e X.env) :: starEach [cl] X.env := by rfl) (h2 : starEach [cl] X.env = (false, eval cl X.env) :: starEach [] X.env := by rfl) (hpl : (backTo pos (starEach [cl] X.env)).any (·.1) = false := by rfl) :
    PE X (.Call (.Name "isinstance" p) [e, cl] [] pos) (TEof c r W (eIsX sb tb ks ea)) := PE.imp (pe_callB call_isS hg hm boot_isinstance (pa_cons he (pa_cons hcl pa_nil h2) h1) (by decide) (by decide) h1 hpl) fun σ H Q ⟨ads, G, env, R, h⟩ => by
  refine ⟨ads, G, env, R, Sat_mono (Sat_bind.mp h) (fun x e1 h1 ads1 G1 H1 v1 R1 s1 p1 => ?_) fun _ _ z => z⟩
  cases q : look e1 x with
  | none => simp only [q] at h1; exact h1.elim
  | some t =>
    simp only [q] at h1
    have w := look_rep R1 p1 q
    have other : ((ofO (isiF tb ks t) e1).bind (fun b e => (RE.ok (Vl.tr (.bl b)) e : RE Vl))).Sat (fun x env' => ∀ ads' G' H' v, RS c r ads' G' H' σ env' → Nxt ads G H ads' G' H' → VRep c σ G' x v → Q v H') (XC c r W G σ) → rIsi X.K [v1, v] H1 Q := fun h3 => by
      obtain ⟨b, hb, h2⟩ := Sat_ofO.mp (Sat_bind.mp h3)
      obtain ⟨z1, z2⟩ := isiF_some hb
      exact ⟨v1, v, _, u, b, rfl, hu, by rw [hK]; exact isi_ty R1.sub hk w z2, by rw [hK]; exact ht (kindOf t) b (fun k hk' => by rw [hk'] at z2; exact z2) z1, h2 ads1 G1 H1 _ R1 s1 (rep_bl (c := c) G1)⟩
    cases t with
    | slc lo hi =>
      obtain ⟨b, hb, h2⟩ := Sat_ofO.mp (Sat_bind.mp h1)
      obtain ⟨a, vl, vu, rfl, pl, pu, hg'⟩ := w
      exact .inr ⟨a, vl, vu, v, u, b, rfl, hu, R1.sub _ _ hg', by rw [hK]; exact hs b hb, h2 ads1 G1 H1 _ R1 s1 (rep_bl (c := c) G1)⟩
    | _ => exact .inl (other h1)
end
/-! ### a += b -/
section
open PySem.W
variable {prog : Program} {w : World} {A : Around} {E : Value → Shared → Prop} {s : Shared} {K : PySem.W.Frag} {x C L f : Addr} {h₀ : Heap} {m : Str → Option Value} {ox : Obj} {od : Option Obj}
theorem noInpl {M : Model} {h : Heap} {nm : String} {add : Bool} {cd : ClassData} (XK : K.In h) (hc : clsIn K C = some cd) (hm : cd.mro = [.ref C, .type "object"]) (hi : findIn K (.ref C) (dunderI nm) = some none) (ho : typeLookup (.type "object") (dunderI nm) = pure none) : Looks M h (fillsInplaceSlot (.ref C) nm add) false := by
  intro A Q E s k q
  unfold fillsInplaceSlot
  refine wpAny_bind ((looks_clsIn XK hc).andThen (f := fun cd => pure cd.mro) .now A _ E s k ?_)
  rw [hm, List.anyM_cons]
  refine wpAny_bind (wpAny_bind (looks_findIn XK hi A _ E s k ?_))
  try dsimp only
  refine wpAny_pure ?_
  try simp only [Bool.false_eq_true, if_false]
  rw [List.anyM_cons]
  refine wpAny_bind (wpAny_bind (wpAny_of_eq ho (wpAny_pure ?_)))
  try dsimp only
  refine wpAny_pure ?_
  try simp only [Bool.false_eq_true, if_false]
  first | exact wpAny_pure q | exact q
theorem inpl_K {op : Operator} {b : Value} {Q : Value → Shared → Prop} (F : Fr h₀ L s.heap m) (X₀ : K.In h₀) (I : InstAt s.heap x ox C od) (hb : Looks (model prog w) s.heap (typeOf b) (.ref C)) (hc : twoMro K C = true)
    (hi : findIn K (.ref C) (dunderI op.info.2) = some none) (ho : typeLookup (.type "object") (dunderI op.info.2) = pure none)
    (hs : findIn K (.ref C) (PySem.dunder op.info.2) = some (some (.ref f))) (hf : isFn K (.ref f) = true)
    (h : wpAny (model prog w) A (call (.ref f) [.ref x, b]) (PySem.W.CmpBack Q) E s) : wpAny (model prog w) A (inplaceOp op (.ref x) b) Q E s := by
  have XK := X₀.keeps F.keep
  obtain ⟨cd, hcd, hm⟩ : ∃ cd, clsIn K C = some cd ∧ cd.mro = [.ref C, .type "object"] := by
    unfold twoMro at hc
    cases q : clsIn K C with
    | none => rw [q] at hc; cases hc
    | some cd => rw [q] at hc; exact ⟨cd, rfl, eq_of_beq hc⟩
  unfold inplaceOp
  refine wpAny_holding ?_
  dsimp only
  refine wpAny_bind (I.type.here ?_)
  refine wpAny_bind ((noInpl XK hcd hm hi ho).here ?_)
  simp only [Bool.false_eq_true, if_false]
  refine wpAny_bind ?_
  unfold binaryOp1
  refine wpAny_bind (I.type.here (wpAny_bind (hb.here (wpAny_bind ((fills_K XK hcd hm hs).here ?_)))))
  simp only [beq_self_eq_true, if_true]
  refine wpAny_bind (wpAny_pure ?_)
  simp only [Bool.and_false, Bool.false_eq_true, if_false, Bool.false_and]
  refine wpAny_bind (wpAny_pure ?_)
  simp only [Bool.false_eq_true, if_false]
  refine wpAny_bind (m := tryMethod (.ref x) _ b) ?_
  unfold tryMethod
  refine wpAny_bind (special_fn XK I hs (beq_iff_eq.mp hf) (wpAny_mono h (fun v s' hv => ?_) fun _ _ e => e))
  cases v <;> first | exact hv.elim | exact wpAny_pure (wpAny_pure (wpAny_pure hv))
end
section
variable {X : Cx} {c : TC} {r : Ref} {W : WX} {e b : Expr} {eb : EvE} {er : EvR} {kc k i : Nat} {F : FSem} {f : Addr} {fd : FuncData} {ps : List Str} {x : Str} {pos pos' : Pos}
theorem res_imp {σ : L2.St} {H : Hp} {Q : VK} (h : TEof c r W (eRes er) σ H Q) : TRof c r W er σ H Q := by
  obtain ⟨ads, G, env, R, h⟩ := h
  refine ⟨ads, G, env, R, Sat_mono (Sat_bind.mp h) (fun o e1 h1 ads1 G1 H1 v1 R1 s1 ow => ?_) fun _ _ z => z⟩
  cases o with
  | t t => exact h1 ads1 G1 H1 v1 R1 s1 ow
  | ow o =>
    obtain ⟨p1, ad, rfl, ow, nw⟩ := ow
    cases q : o.tree with
    | none => simp only [q] at h1; exact h1.elim
    | some t =>
      simp only [q] at h1
      obtain ⟨ho, hp⟩ := ow.one q
      have n1 := nw p1 (by rw [ow.ad q]; exact List.mem_singleton.mpr rfl)
      obtain ⟨s2, R2⟩ := R1.know hp n1.1
      exact h1 ads1 _ H1 (.ref p1) R2 (s1.fresh n1.1.1 n1.2) (ow.known q hp s2)
theorem var_imp {σ : L2.St} {H : Hp} {Q : VK} (h : TEof c r W (eVar i) σ H Q) : ∃ v, σ[i]? = some (some v) ∧ Q v H := by
  obtain ⟨ads, G, env, R, h⟩ := h
  have s := R.slot i
  simp only [eVar] at h
  cases q : env[i]? with
  | none => rw [q] at h; exact h.elim
  | some o =>
    rw [q] at h s
    cases z : σ[i]?.join with
    | none =>
      rw [z] at s
      cases o with
      | none => exact h.elim
      | some a => cases a <;> exact (show False from s).elim
    | some v =>
      have z' : σ[i]? = some (some v) := Option.join_eq_some_iff.mp z
      rw [z] at s
      cases o with
      | none => exact h.elim
      | some a =>
        cases a with
        | t t => exact ⟨v, z', h ads G H v R (Nxt.refl _ _ _) s.2⟩
        | ow o => exact ⟨v, z', h ads G H v R (Nxt.refl _ _ _) z'⟩
/-- a += b: no __iadd__, an own __add__ -/
theorem ts_augOwn (M : OwnM X.K (c.C kc) (PySem.dunder (Operator.info .Add).2) f) (h2 : twoMro X.K (c.C kc) = true) (hi' : PySem.W.findIn X.K (.ref (c.C kc)) (dunderI (Operator.info .Add).2) = some none) (ho : typeLookup (.type "object") (dunderI (Operator.info .Add).2) = pure none)
    (hF : FnG X.prog X.w X.K X.mg X.base k f fd ps (spF c 2 F)) (hb : Binds X.K fd ps []) (hr : RoomG k X.A) (tk : Takes X W) (hN : X.N.Nodup) (hi : X.N[i]? = some x) (hx : Loc X.env.scope x) (hp : (r.pins.map Prod.fst).contains i = false) (hbb : PE X e (TEof c r W eb))
    (hf : X.fn x = true ∨ X.env.scope.names.lookup x = some .local := by first | exact .inl rfl | exact .inr rfl | assumption) :
    PS X (.AugAssign (.Name x pos') .Add e pos) (TSof c r W (sAsg (eRes (rDun2 kc F gId (isIns kc) (eVar i) eb)) (gNm i))) := by
  refine ⟨fun pins st σ H D I h => ?_⟩
  have q := asg_imp (us := [i]) h
  have q2 : TEof c r W (eRes (rDun2 kc F gId (isIns kc) (eVar i) eb)) σ H (fun z H2 => D.nx (σ.set i (some z)) H2) := by
    obtain ⟨ads, G, env, R, q⟩ := q
    refine ⟨ads, G, env, R, Sat_mono q (fun x e1 h1 ads' G' H' v R' s' p' => ?_) fun _ _ z => z⟩
    obtain ⟨ads2, G2, env2, t, env3, R2, rp, e3, kq⟩ := h1 ads' G' H' v R' s' p'
    cases e3
    refine kq _ _ (R2.set rp hp) (by simp) (fun j hj => ?_) (fun j hj => ?_) fun j hj => ?_
    · exact List.getElem?_set_ne fun z => hj (by rw [z]; exact List.mem_singleton.mpr rfl)
    · exact if_neg fun z => hj (by rw [z]; exact List.mem_singleton.mpr rfl)
    · exact .inl (if_pos (List.mem_singleton.mp hj))
  have q3 := dun2_imp (P := fun y H => ∃ a dx gs, y = .ref a ∧ H a = some (.ins (c.C kc) dx gs)) pins_ok (res_imp q2)
  obtain ⟨v, e1, q4⟩ := var_imp q3
  obtain ⟨m, hn, hl⟩ := I.loc
  have vis : Vis X.env.scope x := hx.elim (fun k => .inl k) (fun k => .inr (.inl k))
  obtain ⟨u, r', l⟩ := hl i x v hi e1 vis
  refine wpAny_AugAssign_Name ?_
  have go : wpAny (model X.prog X.w) X.A (eval e X.env) (fun w s₂ => wpAny (model X.prog X.w) X.A (inplaceOp .Add u w) (fun r s₃ => wpAny (model X.prog X.w) X.A (storeName X.env x r) (fun _ => SP X pins D .next) X.xe s₃) X.xe s₂) X.xe st := by
    refine thn (hbb.run pins st σ H _ I q4) fun w s1 ⟨y, H1, I1, ry, q1⟩ => ?_
    obtain ⟨ads0, G0, H0, ⟨a1, dx, gs, e1', hH⟩, ⟨a2, dy, gs2, e2, hH2⟩, sp⟩ := q1
    subst e1'; subst e2
    obtain rfl := (show u = Value.ref a1 from r')
    obtain rfl := (show w = Value.ref a2 from ry)
    obtain ⟨ox, od, J⟩ := inst_of I1 hH
    obtain ⟨ox2, od2, J2⟩ := inst_of I1 hH2
    obtain ⟨m2, fr⟩ := I1.fr
    refine inpl_K fr I1.ok.mod.kin J J2.type h2 hi' ho M.at_ M.fn ?_
    refine thn (runG0 hF hb hr I1.ok.frames (passAt tk σ) I1 (.cons (show L2.RelV (.ref a1) (.ref a1) from rfl) (.cons ry .nil)) sp) fun u s2 ⟨v2, H2, I2, r2, qg⟩ => backed r2 ?_
    exact store_ok I2 hN hi hx r2 (fun s3 I3 => ⟨_, H2, I3, qg.id⟩) hf
  rcases l with ⟨hk, hm⟩ | ⟨hk, c', hc, hcell⟩
  · exact wpAny_loadName_local I.ok.kind hk hn hm go
  · rcases hk with hk | hk
    · exact wpAny_loadName_cell I.ok.kind hk hc hcell go
    · rcases hx with k | k
      · have z : X.env.scope.names.lookup x = some .free := hk
        rw [k] at z; cases z
      · have z : X.env.scope.names.lookup x = some .free := hk
        rw [k] at z; cases z
end
section
open PySem.W
variable {prog : Program} {w : World} {A : Around} {E : Value → Shared → Prop} {s : Shared} {K : PySem.W.Frag} {x C L f : Addr} {h₀ : Heap} {m : Str → Option Value} {ox : Obj} {od : Option Obj}
/-- o[lo:hi], o of an own class with a __getitem__ -/
theorem slOwn_K {value slice : Expr} {i : Value} {Q : Value → Shared → Prop} (F : Fr h₀ L s.heap m) (X₀ : K.In h₀) (I : InstAt s.heap x ox C od) (hq : noSeq K C = true) (hs : findIn K (.ref C) "__getitem__" = some (some (.ref f))) (hf : fnIn K f = true) (hfn : isFn K (.ref f) = true)
    (h : wpAny (model prog w) A (call (.ref f) [.ref x, i]) Q E s) (hsl : subscripted slice true (.ref x) i = operate [i, .ref x] (getItem (.ref x) i)) :
    wpAny (model prog w) A (subscriptTail value slice (.ref x) i) Q E s := by
  have XK := X₀.keeps F.keep
  unfold fnIn at hf
  split at hf
  · rename_i e
    unfold subscriptTail getitemInPython
    refine wpAny_bind (wpAny_bind (wpAny_bind (I.type.here ((looks_findIn XK hs).here ?_))))
    dsimp only
    refine wpAny_bind (wpAny_load (XK _ _ e) (wpAny_pure ?_))
    dsimp only
    rw [hsl]
    refine wpAny_bind (PyProof.Rows.wpAny_operate' (getItem_K F X₀ I hq hs hfn (wpAny_mono h (fun v s' z => ?_) fun _ _ z => z)))
    exact wpAny_bind (wpAny_letTemporaryGo (wpAny_pure z))
  · cases hf
end
section
variable {X : Cx} {c : TC} {r : Ref} {W : WX} {a : Expr} {ea : EvE} {kc k : Nat} {F : FSem} {f : Addr} {fd : FuncData} {ps : List Str} {lo hi : Option Expr} {ol oh : EvO} {pos p2 : Pos}
theorem tr_slOwn (M : OwnM X.K (c.C kc) "__getitem__" f) (hfn : PySem.W.fnIn X.K f = true) (hq : PySem.W.noSeq X.K (c.C kc) = true) (hF : FnG X.prog X.w X.K X.mg X.base k f fd ps (spF c 2 F)) (hb : Binds X.K fd ps []) (hr : RoomG (k + 1) X.A) (tk : Takes X W) (ha : PE X a (TEof c r W ea)) (hl : PO X lo (TOof c r W ol)) (hh : PO X hi (TOof c r W oh)) :
    PE X (.Subscript a (.Slice lo hi none p2) pos) (TRof c r W (rDun2 kc F gId anyY ea (eSlcE ol oh))) := ⟨fun pins st σ H Q I h => by
  refine Subscript_ (two_run (P := fun _ _ => True) (f2 := subscriptTail a (.Slice lo hi none p2)) anyY_ok ha (pt_slcE hl hh) (fun pins st σ H x y v u Q ads0 G0 H0 I rx ry ⟨⟨a1, dx, gs, e1, hH⟩, _, sp⟩ => ?_) I h)
  subst e1
  obtain rfl := (show v = Value.ref a1 from rx)
  obtain ⟨ox, od, J⟩ := inst_of I hH
  obtain ⟨m, fr⟩ := I.fr
  refine slOwn_K fr I.ok.mod.kin J hq M.at_ hfn M.fn ?_ (by with_unfolding_all rfl)
  exact thn (runG0 hF hb (hr.mono (Nat.le_succ _)) I.ok.frames (passAt tk σ) I (.cons rx (.cons ry .nil)) sp) fun u s2 ⟨v2, H2, I2, r2, qg⟩ => ⟨v2, H2, I2, r2, qg.id⟩⟩
end
end TreeL
end
section
/-! law k11: the run of the head; printed by wip/gen2.py -/
namespace Lk11
open PySem PySem.Spec PyProof.Rows L2 TreeL
def top (i : Nat) : Stmt := PySem.Challenge.pw_stepsback_k11_weavings_put_together.main.body.getD i (.Pass ⟨0, 0, 0, 0⟩)
def cs : List PySem.Str := ["Row", "First", "Mode", "Turn", "Lead", "House", "Weaving", "Plan", "Single", "Played", "Course", "Entry", "Ways", "Paths", "Task", "Tasks", "Trial", "Room", "Desk", "StepError", "InvalidRow", "InvalidPlan", "InvalidText", "InvalidEvent", "InvalidTask", "Refused", "InvalidGoal", "InvalidCommand", "Mismatch", "NoRow", "NoEvent", "NoName"]
abbrev hks : List Nat := [6]
def dd__law_deal : He5.DefA := ⟨fun K => He.ga K "_law_deal", "_law_deal", "_law_deal", defArgs (top 26), defBody (top 26), defScope (top 26), [], []⟩
def dd__law_draw : He5.DefA := ⟨fun K => He.ga K "_law_draw", "_law_draw", "_law_draw", defArgs (top 27), defBody (top 27), defScope (top 27), [], []⟩
def dd__law_mixed : He5.DefA := ⟨fun K => He.ga K "_law_mixed", "_law_mixed", "_law_mixed", defArgs (top 29), defBody (top 29), defScope (top 29), [], []⟩
def dd__law_pool : He5.DefA := ⟨fun K => He.ga K "_law_pool", "_law_pool", "_law_pool", defArgs (top 30), defBody (top 30), defScope (top 30), [], []⟩
def dd__law_names : He5.DefA := ⟨fun K => He.ga K "_law_names", "_law_names", "_law_names", defArgs (top 31), defBody (top 31), defScope (top 31), [], []⟩
def dd__law_pick : He5.DefA := ⟨fun K => He.ga K "_law_pick", "_law_pick", "_law_pick", defArgs (top 28), defBody (top 28), defScope (top 28), [], []⟩
def dd__law_event : He5.DefA := ⟨fun K => He.ga K "_law_event", "_law_event", "_law_event", defArgs (top 32), defBody (top 32), defScope (top 32), [], []⟩
def dd__law_weaving : He5.DefA := ⟨fun K => He.ga K "_law_weaving", "_law_weaving", "_law_weaving", defArgs (top 33), defBody (top 33), defScope (top 33), [], []⟩
def dd_is_sequence : He5.DefA := ⟨fun K => He.ga K "is_sequence", "is_sequence", "is_sequence", defArgs (top 14), defBody (top 14), defScope (top 14), [], []⟩
def dd_is_name : He5.DefA := ⟨fun K => He.ga K "is_name", "is_name", "is_name", defArgs (top 13), defBody (top 13), defScope (top 13), [], []⟩
def dd_are_names : He5.DefA := ⟨fun K => He.ga K "are_names", "are_names", "are_names", defArgs (top 15), defBody (top 15), defScope (top 15), [], []⟩
def dd_are_firsts : He5.DefA := ⟨fun K => He.ga K "are_firsts", "are_firsts", "are_firsts", defArgs (top 23), defBody (top 23), defScope (top 23), [], []⟩
def dd_is_integer : He5.DefA := ⟨fun K => He.ga K "is_integer", "is_integer", "is_integer", defArgs (top 12), defBody (top 12), defScope (top 12), [], []⟩
def dd_is_step : He5.DefA := ⟨fun K => He.ga K "is_step", "is_step", "is_step", defArgs (top 20), defBody (top 20), defScope (top 20), [], []⟩
def dd_is_event : He5.DefA := ⟨fun K => He.ga K "is_event", "is_event", "is_event", defArgs (top 21), defBody (top 21), defScope (top 21), [], []⟩
def dd_Weaving___init__ : He5.DefA := ⟨fun K => He.ma K (He.ga K "Weaving") "__init__", "__init__", "Weaving.__init__", defArgs (inClass (top 24) 0), defBody (inClass (top 24) 0), defScope (inClass (top 24) 0), [.adr (He.dflAt ("Weaving", some "__init__") 0)], []⟩
def dd_Weaving___add__ : He5.DefA := ⟨fun K => He.ma K (He.ga K "Weaving") "__add__", "__add__", "Weaving.__add__", defArgs (inClass (top 24) 7), defBody (inClass (top 24) 7), defScope (inClass (top 24) 7), [], []⟩
def dd__law_tried : He5.DefA := ⟨fun K => He.ga K "_law_tried", "_law_tried", "_law_tried", defArgs (top 34), defBody (top 34), defScope (top 34), [], []⟩
def dd_Weaving_alone : He5.DefA := ⟨fun K => He.ma K (He.ga K "Weaving") "alone", "alone", "Weaving.alone", defArgs (inClass (top 24) 3), defBody (inClass (top 24) 3), defScope (inClass (top 24) 3), [], []⟩
def dd_Weaving___eq__ : He5.DefA := ⟨fun K => He.ma K (He.ga K "Weaving") "__eq__", "__eq__", "Weaving.__eq__", defArgs (inClass (top 24) 8), defBody (inClass (top 24) 8), defScope (inClass (top 24) 8), [], []⟩
def dd_Weaving___getitem__ : He5.DefA := ⟨fun K => He.ma K (He.ga K "Weaving") "__getitem__", "__getitem__", "Weaving.__getitem__", defArgs (inClass (top 24) 5), defBody (inClass (top 24) 5), defScope (inClass (top 24) 5), [], []⟩
def dd_law : He5.DefA := ⟨fun K => He.ga K "law", "law", "law", defArgs (top 35), defBody (top 35), defScope (top 35), [], []⟩
def fn : List He5.DefA := [dd__law_deal, dd__law_draw, dd__law_mixed, dd__law_pool, dd__law_names, dd__law_pick, dd__law_event, dd__law_weaving, dd_is_sequence, dd_is_name, dd_are_names, dd_are_firsts, dd_is_integer, dd_is_step, dd_is_event, dd_Weaving___init__, dd_Weaving___add__, dd__law_tried, dd_Weaving_alone, dd_Weaving___eq__, dd_Weaving___getitem__, dd_law]
def fs : List (PySem.W.Frag → Bool) := [(He.Fa.free "abs").ok,
  (He.Fa.free "int").ok,
  (He.Fa.glo "_law_deal").ok,
  (He.Fa.free "range").ok,
  (He.Fa.free "list").ok,
  (He.Fa.free "len").ok,
  (He.Fa.glo "_law_draw").ok,
  (He.Fa.glo "_law_pool").ok,
  (He.Fa.glo "_law_mixed").ok,
  (He.Fa.glo "_law_names").ok,
  (He.Fa.glo "_law_pick").ok,
  (He.Fa.glo "_law_event").ok,
  (He.Fa.glo "_law_weaving").ok,
  isiB cs hks [.lst, .tup] [.ty "list", .ty "tuple"],
  (He.Fa.free "tuple").ok,
  isicB "Weaving",
  (He.Fa.free "isinstance").ok,
  (He.Fa.glo "is_sequence").ok,
  isiB cs hks [.str] [.ty "str"],
  (He.Fa.free "str").ok,
  (He.Fa.glo "BARRED").ok,
  fun K => He.tupB K "BARRED" ((["and", "any", "do", "if", "none", "not", "same", "send", "then", "time", "to", "wipe", "work"] : List PySem.Str).map He.Dv.str),
  (He.Fa.str "SMALL" "abcdefghijklmnopqrstuvwxyz").ok,
  (He.Fa.free "all").ok,
  (He.Fa.glo "is_name").ok,
  (He.Fa.glo "are_names").ok,
  (He.Fa.glo "are_firsts").ok,
  fun K => xcB1 XB.value "at" (He.ga K "InvalidEvent") K,
  fun K => xcB2 "at" PySem.Challenge.pw_stepsback_k11_weavings_put_together.main.file (He.ga K "InvalidEvent") K,
  fun K => xcB3 XB.value "at" (He.ga K "InvalidEvent") K,
  fun K => xcB4 "at" (He.ga K "InvalidEvent") K,
  fun K => xcB5 (He.ga K "InvalidEvent") K,
  (He.Fa.glo "InvalidEvent").ok,
  (He.Fa.free "enumerate").ok,
  isiB cs hks [.tup] [.ty "tuple"],
  isiB cs hks [.int, .bl] [.ty "int"],
  isiB cs hks [.bl] [.ty "bool"],
  (He.Fa.free "bool").ok,
  (He.Fa.glo "is_integer").ok,
  (He.Fa.glo "OF_LETTERS").ok,
  fun K => He.tupB K "OF_LETTERS" ((["back", "there"] : List PySem.Str).map He.Dv.str),
  (He.Fa.glo "is_step").ok,
  (He.Fa.glo "OF_STEPS").ok,
  fun K => He.tupB K "OF_STEPS" ((["time", "build", "leave", "work", "wipe"] : List PySem.Str).map He.Dv.str),
  (He.Fa.glo "is_event").ok,
  (He.Fa.cls "Weaving").ok,
  (He.Fa.noat "Weaving" "firsts").ok,
  (He.Fa.noat "Weaving" "events").ok,
  (He.Fa.mkr "Weaving").ok,
  (He.Fa.glo "Weaving").ok,
  isiB cs hks [.ins 6] [.own 6],
  fun K => x0B XB.value (He.ga K "Mismatch") K,
  (He.Fa.glo "Mismatch").ok,
  (He.Fa.meth "Weaving" "__add__").ok,
  fun K => PySem.W.selfFirst K (He.ga K "Weaving"),
  (He.Fa.glo "StepError").ok,
  xiB cs [28, 23],
  kitB cs [28, 23] [28, 23] (.own 19),
  (He.Fa.glo "Refused").ok,
  kitB cs [28, 23] [] (.own 25),
  exmB cs [28, 23] [28] 28,
  (He.Fa.glo "_law_tried").ok,
  (He.Fa.meth "Weaving" "alone").ok,
  (He.Fa.meth "Weaving" "__eq__").ok,
  neB "Weaving",
  mroOb "Weaving",
  noIadd "Weaving",
  fun K => xcB1 XB.index "at" (He.ga K "NoEvent") K,
  fun K => xcB2 "at" PySem.Challenge.pw_stepsback_k11_weavings_put_together.main.file (He.ga K "NoEvent") K,
  fun K => xcB3 XB.index "at" (He.ga K "NoEvent") K,
  fun K => xcB4 "at" (He.ga K "NoEvent") K,
  fun K => xcB5 (He.ga K "NoEvent") K,
  (He.Fa.glo "NoEvent").ok,
  (He.Fa.meth "Weaving" "__getitem__").ok,
  fnInB "Weaving" "__getitem__",
  fun K => PySem.W.noSeq K (He.ga K "Weaving"),
  nilAt (He.dflAt ("Weaving", some "__init__") 0),
  (He.Fa.glo "law").ok]
abbrev R : PySem.W.OpenRow := PySem.W.OpenLaw.row PySem.Challenge.rw_stepsback_k11_weavings_put_together
abbrev hk : PySem.W.Hook := hookT 6 fs fn
def ob (s : PySem.W.SharedT) : He.AlD := obsTG 6 fs fn (HandSHeadRun.getT s)
theorem ob_eq (s : PySem.W.SharedT) : ob s = hk.obs s.abs := obsTG_eq (HandSHeadRun.getT_eq s)
def nm0 : List PySem.Str := ["_wall", "StepError", "InvalidText", "InvalidEvent", "Refused", "Mismatch", "NoEvent", "SMALL", "BARRED", "DIGITS", "is_integer", "is_name", "is_sequence", "are_names", "number_in", "OF_STEPS", "OF_LETTERS", "is_step", "is_event", "event_in", "are_firsts", "Weaving", "_law_deal", "_law_draw", "_law_pick", "_law_mixed", "_law_pool", "_law_names", "_law_event", "_law_weaving"]
def nm1 : List PySem.Str := ["_law_tried"]
def nms : List PySem.Str := nm0 ++ nm1
theorem run (w : World) : HandSHeadRun.RunEq R (PySem.W.view R.prog [35]) hk ob 20000 nms w := by
  intro os
  kernel_rfl
end Lk11
end
section
/-! defs as functions of trees, first met in law k12; printed by wip/gen2.py -/
open PySem PySem.Spec PyProof.Rows L2 TreeL
def Lib.eb_h_deal_1 : EvS := (sAsg (eBin modP (eRes (rBui intF (aCons (eRes (rBin addA (eRes (rBin mulA (eVar 4) (eCon (.int 16807)))) (eVar 3))) aNil))) (eCon (.int 2147483647))) (gNm 4))
def Lib.ev_h_deal : EvS := (sSeq (sAsg (eOf (fComp (iAny [0, 1] (eRes (rSl (eVar 0) (oSo (eVar 1)) (oSo (eCon (.int 63)))))) (gNm 3) tYesT (eRes (rBui absF (aCons (eVar 3) aNil))) [3])) (gNm 2))
  (sSeq (sAsg (eRes (rBin addA (eCon (.int 15485863)) (eVar 1))) (gNm 4))
  (sSeq (sFor (iAny [0, 1] (eVar 2)) (gNm 3) Lib.eb_h_deal_1)
  (sSeq (sAsg (eOf (fComp (iAny [0, 1] (eVar 2)) (gNm 3) (tBl (eBin geP (eVar 3) (eBin powP (eCon (.int 10)) (eCon (.int 18))))) (eVar 3) [3])) (gNm 5))
  (sRetF (fBox (fRes (rRev (eVar 5))) [("now", (eCon (.int 0))), ("mixed", (eRes (rBin addA (eVar 4) (eCon (.int 1))))), ("turn", (eCon (.int 0)))]))))))
def Lib.F_h_deal : FSem := fDef 6 [0, 1] Lib.ev_h_deal
def Lib.eb_h_draw_1 : EvS := (sBput 0 "now" (eBpop 0))
def Lib.ev_h_draw : EvS := (sSeq (sLoop (tAn (tBl (eBin eqP (eBget 0 "now") (eCon (.int 0)))) (tBl (eBin gtP (eBlen 0) (eCon (.int 0))))) Lib.eb_h_draw_1 1000)
  (sSeq (sIf (tBl (eBin gtP (eBget 0 "now") (eCon (.int 0)))) (sSeq (sAsg (eBin modP (eRes (rBui intF (aCons (eBget 0 "now") aNil))) (eVar 1)) (gNm 2))
  (sSeq (sBput 0 "now" (eBin fdivP (eBget 0 "now") (eVar 1)))
  (sRet [0, 1] (eVar 2)))) sSkip)
  (sSeq (sBput 0 "turn" (eRes (rBin addA (eBget 0 "turn") (eCon (.int 1)))))
  (sSeq (sAsg (eBin modP (eRes (rBui intF (aCons (eRes (rBin addA (eRes (rBin mulA (eBget 0 "mixed") (eCon (.int 48271)))) (eRes (rBin mulA (eBget 0 "turn") (eCon (.int 69621)))))) aNil))) (eCon (.int 2147483629))) (gNm 3))
  (sSeq (sAsg (eBin modP (eRes (rBui intF (aCons (eRes (rBin addA (eRes (rBin mulA (eVar 3) (eVar 3))) (eRes (rBin mulA (eBget 0 "turn") (eCon (.int 7919)))))) aNil))) (eCon (.int 2147483563))) (gNm 4))
  (sSeq (sBput 0 "mixed" (eRes (rBin addA (eBin modP (eRes (rBui intF (aCons (eRes (rBin addA (eRes (rBin mulA (eVar 4) (eCon (.int 40692)))) (eVar 3))) aNil))) (eCon (.int 2147483647))) (eCon (.int 1)))))
  (sRet [0, 1] (eBin modP (eRes (rBui intF (aCons (eRes (rBin addA (eBin fdivP (eVar 4) (eCon (.int 4096))) (eVar 3))) aNil))) (eVar 1)))))))))
def Lib.F_h_draw : FSem := fDef 5 [0, 1] Lib.ev_h_draw
def Lib.eb_h_mixed_1 : EvS := (sEx (eMut "list" appendO 3 (aCons (eMut "list" popO 2 (aCons (eRes (rCall 2 Lib.F_h_draw [] (aCons (eVar 0) (aCons (eRes (rBui lenF (aCons (eVar 2) aNil))) aNil)))) aNil)) aNil)))
def Lib.ev_h_mixed : EvS := (sSeq (sPar 2 3 (bCons (rOwn (fRes (rBui listF (aCons (eVar 1) aNil)))) (bCons (rOwn (fLst aNil)) bNil)))
  (sSeq (sLoop (tBl (eBin neP (eVar 2) (eLst aNil))) Lib.eb_h_mixed_1 1000)
  (sRet [0, 1] (eVar 3))))
def Lib.F_h_mixed : FSem := fDef 4 [0, 1] Lib.ev_h_mixed
def Lib.ev_h_pool : EvS := (sSeq (sAsg (eLst (aCons (eCon (.str "new")) (aCons (eCon (.str "off")) (aCons (eCon (.str "yes")) (aCons (eCon (.str "a")) (aCons (eCon (.str "made")) (aCons (eCon (.str "gone")) (aCons (eCon (.str "some")) (aCons (eCon (.str "all")) (aCons (eCon (.str "at")) (aCons (eCon (.str "mark")) aNil))))))))))) (gNm 0))
  (sRet [] (eRes (rBin addA (eVar 0) (eLst (aCons (eCon (.str "make")) (aCons (eCon (.str "lead")) (aCons (eCon (.str "turn")) (aCons (eCon (.str "free")) (aCons (eCon (.str "zzzz")) aNil))))))))))
def Lib.F_h_pool : FSem := fDef 1 [] Lib.ev_h_pool
def Lib.ev_h_names : EvS := (sRet [0, 1] (eRes (rSl (eRes (rCall 2 Lib.F_h_mixed [] (aCons (eVar 0) (aCons (eRes (rCall 0 Lib.F_h_pool [] aNil)) aNil)))) oNo (oSo (eVar 1)))))
def Lib.F_h_names : FSem := fDef 2 [0, 1] Lib.ev_h_names
def Lib.ev_h_pick : EvS := (sRet [0, 1] (eBin ixP (eVar 1) (eRes (rCall 2 Lib.F_h_draw [] (aCons (eVar 0) (aCons (eRes (rBui lenF (aCons (eVar 1) aNil))) aNil))))))
def Lib.F_h_pick : FSem := fDef 2 [0, 1] Lib.ev_h_pick
def Lib.ev_h_event : EvS := (sSeq (sPar 3 4 (bCons (rTree (eRes (rCall 2 Lib.F_h_draw [] (aCons (eVar 0) (aCons (eCon (.int 8)) aNil))))) (bCons (rTree (eRes (rCall 2 Lib.F_h_draw [] (aCons (eVar 0) (aCons (eVar 1) aNil))))) bNil)))
  (sSeq (sIf (tBl (eBin ltP (eVar 3) (eCon (.int 2)))) (sRet [0, 1, 2] (eTup (aCons (eBin ixP (eLst (aCons (eCon (.str "there")) (aCons (eCon (.str "back")) aNil))) (eVar 3)) (aCons (eVar 4) (aCons (eRes (rCall 2 Lib.F_h_pick [] (aCons (eVar 0) (aCons (eVar 2) aNil)))) aNil))))) sSkip)
  (sSeq (sIf (tBl (eBin eqP (eVar 3) (eCon (.int 2)))) (sRet [0, 1, 2] (eTup (aCons (eCon (.str "turn")) (aCons (eRes (rCall 2 Lib.F_h_draw [] (aCons (eVar 0) (aCons (eCon (.int 12)) aNil)))) aNil)))) sSkip)
  (sRet [0, 1, 2] (eTup (aCons (eBin ixP (eLst (aCons (eCon (.str "time")) (aCons (eCon (.str "build")) (aCons (eCon (.str "leave")) (aCons (eCon (.str "work")) (aCons (eCon (.str "wipe")) aNil)))))) (eBin subP (eVar 3) (eCon (.int 3)))) (aCons (eVar 4) aNil)))))))
def Lib.F_h_event : FSem := fDef 5 [0, 1, 2] Lib.ev_h_event
def Lib.ev_h_weaving : EvS := (sSeq (sAsg (eRes (rCall 2 Lib.F_h_names [] (aCons (eVar 0) (aCons (eCon (.int 8)) aNil)))) (gNm 2))
  (sSeq (sAsg (eOf (fComp (iRngA (aCons (eRes (rBin addA (eCon (.int 1)) (eRes (rCall 2 Lib.F_h_draw [] (aCons (eVar 0) (aCons (eCon (.int 4)) aNil)))))) aNil)) (gNm 4) tYesT (eRes (rCall 2 Lib.F_h_pick [] (aCons (eVar 0) (aCons (eRes (rSl (eVar 2) oNo (oSo (eCon (.int 4))))) aNil)))) [4])) (gNm 3))
  (sRet [0, 1] (eTup (aCons (eVar 3) (aCons (eOf (fComp (iRngA (aCons (eRes (rCall 2 Lib.F_h_draw [] (aCons (eVar 0) (aCons (eRes (rBin addA (eVar 1) (eCon (.int 1)))) aNil)))) aNil)) (gNm 4) tYesT (eRes (rCall 3 Lib.F_h_event [] (aCons (eVar 0) (aCons (eRes (rBui lenF (aCons (eVar 3) aNil))) (aCons (eRes (rSl (eVar 2) (oSo (eCon (.int 4))) oNo)) aNil))))) [4])) aNil))))))
def Lib.F_h_weaving : FSem := fDef 5 [0, 1] Lib.ev_h_weaving
def Lib.ev_h_event_text : EvS := (sRet [0] (eRes (rMet "str" joinM (eCon (.str " ")) (aCons (eOf (fComp (iAny [0] (eVar 0)) (gNm 1) tYesT (eRes (rBui strF (aCons (eVar 1) aNil))) [1])) aNil))))
def Lib.F_h_event_text : FSem := fDef 2 [0] Lib.ev_h_event_text
def Lib.ev_h_weaving_text : EvS := (sRet [0, 1] (eRes (rMet "str" joinM (eCon (.str "; ")) (aCons (eRes (rBin addA (eLst (aCons (eRes (rMet "str" joinM (eCon (.str " ")) (aCons (eVar 0) aNil))) aNil)) (eOf (fComp (iAny [0, 1] (eVar 1)) (gNm 2) tYesT (eRes (rCall 1 Lib.F_h_event_text [] (aCons (eVar 2) aNil))) [2])))) aNil))))
def Lib.F_h_weaving_text : FSem := fDef 3 [0, 1] Lib.ev_h_weaving_text
def Lib.ev_is_sequence (ks : List Nat) : EvS := (sRet [0] (eIsi (tbY [.lst, .tup]) ks (eVar 0)))
def Lib.F_is_sequence (ks : List Nat) : FSem := fDef 1 [0] (Lib.ev_is_sequence ks)
def Lib.ev_is_name (ks : List Nat) : EvS := (sSeq (sIf (tOrr (tNt (tTru (eIsi (tbY [.str]) ks (eVar 0)))) (tOrr (tNt (tOfE (eChn leP leP (eCon (.int 1)) (eRes (rBui lenF (aCons (eVar 0) aNil))) (eCon (.int 4))))) (tBl (eBin inP (eVar 0) (eCon (.tup ((["and", "any", "do", "if", "none", "not", "same", "send", "then", "time", "to", "wipe", "work"] : List PySem.Str).map .str))))))) (sRet [0] (eCon (.bl false))) sSkip)
  (sRet [0] (eRes (rBui allF (aCons (eOf (fComp (iAny [0] (eVar 0)) (gNm 1) tYesT (eBin inP (eVar 1) (eCon (.str "abcdefghijklmnopqrstuvwxyz"))) [1])) aNil)))))
def Lib.F_is_name (ks : List Nat) : FSem := fDef 2 [0] (Lib.ev_is_name ks)
def Lib.ev_are_names (ks : List Nat) : EvS := (sRet [0] (eAnd (eRes (rCall 1 (Lib.F_is_sequence ks) [] (aCons (eVar 0) aNil))) (eRes (rBui allF (aCons (eOf (fComp (iAny [0] (eVar 0)) (gNm 1) tYesT (eRes (rCall 1 (Lib.F_is_name ks) [] (aCons (eVar 1) aNil))) [1])) aNil)))))
def Lib.F_are_names (ks : List Nat) : FSem := fDef 2 [0] (Lib.ev_are_names ks)
def Lib.ev_are_firsts (ks : List Nat) : EvS := (sRet [0] (eAnd (eRes (rCall 1 (Lib.F_are_names ks) [] (aCons (eVar 0) aNil))) (eBin gtP (eRes (rBui lenF (aCons (eVar 0) aNil))) (eCon (.int 0)))))
def Lib.F_are_firsts (ks : List Nat) : FSem := fDef 1 [0] (Lib.ev_are_firsts ks)
def Lib.ev_is_integer (ks : List Nat) : EvS := (sRet [0] (eAnd (eIsi (tbY [.int, .bl]) ks (eVar 0)) (eNot (eIsi (tbY [.bl]) ks (eVar 0)))))
def Lib.F_is_integer (ks : List Nat) : FSem := fDef 1 [0] (Lib.ev_is_integer ks)
def Lib.ev_is_step (ks : List Nat) : EvS := (sRet [0, 1] (eAnd (eRes (rCall 1 (Lib.F_is_integer ks) [] (aCons (eVar 0) aNil))) (eChn leP ltP (eCon (.int 0)) (eVar 0) (eVar 1))))
def Lib.F_is_step (ks : List Nat) : FSem := fDef 2 [0, 1] (Lib.ev_is_step ks)
def Lib.ev_is_event (ks : List Nat) : EvS := (sSeq (sIf (tOrr (tNt (tTru (eIsi (tbY [.tup]) ks (eVar 0)))) (tOrr (tBl (eBin eqP (eRes (rBui lenF (aCons (eVar 0) aNil))) (eCon (.int 0)))) (tNt (tTru (eIsi (tbY [.str]) ks (eBin ixP (eVar 0) (eCon (.int 0)))))))) (sRet [0, 1] (eCon (.bl false))) sSkip)
  (sSeq (sMatch (eVar 0) (cSeq [2, 3] (tBl (eBin inP (eVar 2) (eCon (.tup ((["time", "build", "leave", "work", "wipe"] : List PySem.Str).map .str))))) (sRet [0, 1] (eRes (rCall 2 (Lib.F_is_step ks) [] (aCons (eVar 3) (aCons (eVar 1) aNil))))) (cSeq [2, 3, 4] (tBl (eBin inP (eVar 2) (eCon (.tup ((["back", "there"] : List PySem.Str).map .str))))) (sRet [0, 1] (eAnd (eRes (rCall 2 (Lib.F_is_step ks) [] (aCons (eVar 3) (aCons (eVar 1) aNil)))) (eRes (rCall 1 (Lib.F_is_name ks) [] (aCons (eVar 4) aNil))))) (cSeq [2, 5] (tBl (eBin eqP (eVar 2) (eCon (.str "turn")))) (sRet [0, 1] (eAnd (eRes (rCall 1 (Lib.F_is_integer ks) [] (aCons (eVar 5) aNil))) (eBin geP (eVar 5) (eCon (.int 0))))) cNil))))
  (sRet [0, 1] (eCon (.bl false)))))
def Lib.F_is_event (ks : List Nat) : FSem := fDef 6 [0, 1] (Lib.ev_is_event ks)
def Lib.eb_Weaving___init___1 (ks : List Nat) : EvS := (sIf (tNt (tTru (eRes (rCall 2 (Lib.F_is_event ks) [] (aCons (eVar 4) (aCons (eRes (rBui lenF (aCons (eVar 1) aNil))) aNil)))))) (sRaise 23 "at" (eVar 3)) sSkip)
def Lib.ev_Weaving___init__ (ks : List Nat) : EvS := (sSeq (sIf (tOrr (tNt (tTru (eRes (rCall 1 (Lib.F_are_firsts ks) [] (aCons (eVar 1) aNil))))) (tNt (tTru (eRes (rCall 1 (Lib.F_is_sequence ks) [] (aCons (eVar 2) aNil)))))) (sRaise 23 "at" (eCon (.int 0))) sSkip)
  (sSeq (sFor (iEnumS (aCons (eVar 2) aNil)) (gTpL 2 (gsCons (gNm 3) (gsCons (gNm 4) gsNil))) (Lib.eb_Weaving___init___1 ks))
  (sSeq (sFldT 0 6 "firsts" (eRes (rBui tupleF (aCons (eVar 1) aNil))))
  (sFldT 0 6 "events" (eRes (rBui tupleF (aCons (eVar 2) aNil)))))))
def Lib.F_Weaving___init__ (ks : List Nat) : FSem := fDef 5 [0, 1, 2] (Lib.ev_Weaving___init__ ks)
def Lib.ev_number_in : EvS := (sSeq (sIf (tOrr (tNt (tOfE (eChn leP leP (eCon (.int 1)) (eRes (rBui lenF (aCons (eVar 0) aNil))) (eVar 1)))) (tNt (tTru (eRes (rBui allF (aCons (eOf (fComp (iAny [0, 1] (eVar 0)) (gNm 2) tYesT (eBin inP (eVar 2) (eCon (.str "0123456789"))) [2])) aNil)))))) (sRet [0, 1] (eCon .non)) sSkip)
  (sRet [0, 1] (eIf (tOrr (tBl (eBin eqP (eVar 0) (eCon (.str "0")))) (tBl (eBin neP (eBin ixP (eVar 0) (eCon (.int 0))) (eCon (.str "0"))))) (eRes (rBui intF (aCons (eVar 0) aNil))) (eCon .non))))
def Lib.F_number_in : FSem := fDef 3 [0, 1] Lib.ev_number_in
def Lib.ev_event_in (ks : List Nat) : EvS := (sSeq (sAsg (eRes (rMet "str" splitM (eVar 0) (aCons (eCon (.str " ")) aNil))) (gStr 1 (gsCons (gNm 2) (gsCons (gNm 3) gsNil))))
  (sSeq (sAsg (eIf (tBl (eBin gtP (eRes (rBui lenF (aCons (eVar 3) aNil))) (eCon (.int 0)))) (eRes (rCall 2 Lib.F_number_in [.int 4] (aCons (eBin ixP (eVar 3) (eCon (.int 0))) aNil))) (eCon .non)) (gNm 4))
  (sSeq (sAsg (eTup (aCons (eVar 2) (aCons (eVar 4) (aStar (eRes (rSl (eVar 3) (oSo (eCon (.int 1))) oNo)) aNil)))) (gNm 5))
  (sRet [0, 1] (eIf (tAn (tBl (eBin notNP (eVar 4) (eCon .non))) (tTru (eRes (rCall 2 (Lib.F_is_event ks) [] (aCons (eVar 5) (aCons (eVar 1) aNil)))))) (eVar 5) (eCon .non))))))
def Lib.F_event_in (ks : List Nat) : FSem := fDef 6 [0, 1] (Lib.ev_event_in ks)
def Lib.ev_Weaving_read (ks : List Nat) : EvS := (sSeq (sAsg (eRes (rMet "str" splitM (eVar 1) (aCons (eCon (.str "; ")) aNil))) (gStr 1 (gsCons (gNm 2) (gsCons (gNm 3) gsNil))))
  (sSeq (sAsg (eRes (rMet "str" splitM (eVar 2) (aCons (eCon (.str " ")) aNil))) (gNm 4))
  (sSeq (sIf (tNt (tTru (eRes (rCall 1 (Lib.F_are_firsts ks) [] (aCons (eVar 4) aNil))))) (sRaise 22 "at" (eCon (.int 0))) sSkip)
  (sSeq (sAsg (eOf (fComp (iAny [0, 1] (eVar 3)) (gNm 6) tYesT (eRes (rCall 2 (Lib.F_event_in ks) [] (aCons (eVar 6) (aCons (eRes (rBui lenF (aCons (eVar 4) aNil))) aNil)))) [6])) (gNm 5))
  (sSeq (sIf (tBl (eBin inP (eCon .non) (eVar 5))) (sRaise 22 "at" (eRes (rBin addA (eCon (.int 1)) (eRes (rMet "list" indexM (eVar 5) (aCons (eCon .non) aNil)))))) sSkip)
  (sRet [0, 1] (eRes (rMakeV 0 6 3 (Lib.F_Weaving___init__ ks) [] (aCons (eVar 4) (aCons (eVar 5) aNil))))))))))
def Lib.F_Weaving_read (ks : List Nat) : FSem := fDef 7 [0, 1] (Lib.ev_Weaving_read ks)
def Lib.ev_Weaving___str__ (ks : List Nat) : EvS := (sSeq (sAsg (eOf (fComp (iAny [0] (eFl [6] ks "events" (eVar 0))) (gNm 3) tYesT (eRes (rMet "str" joinM (eCon (.str " ")) (aCons (eOf (fComp (iAny [0] (eVar 3)) (gNm 2) tYesT (eRes (rBui strF (aCons (eVar 2) aNil))) [2])) aNil))) [3])) (gNm 1))
  (sRet [0] (eRes (rMet "str" joinM (eCon (.str "; ")) (aCons (eLst (aCons (eRes (rMet "str" joinM (eCon (.str " ")) (aCons (eFl [6, 7] ks "firsts" (eVar 0)) aNil))) (aStar (eVar 1) aNil))) aNil)))))
def Lib.F_Weaving___str__ (ks : List Nat) : FSem := fDef 4 [0] (Lib.ev_Weaving___str__ ks)
def Lib.ev_Weaving___eq__ (ks : List Nat) : EvS := (sRet [0, 1] (eAnd (eIsi (tbY [.ins 6]) ks (eVar 1)) (eBin eqP (eTup (aCons (eFl [6, 7] ks "firsts" (eVar 0)) (aCons (eFl [6] ks "events" (eVar 0)) aNil))) (eTup (aCons (eFl [6, 7] ks "firsts" (eVar 1)) (aCons (eFl [6] ks "events" (eVar 1)) aNil))))))
def Lib.F_Weaving___eq__ (ks : List Nat) : FSem := fDef 2 [0, 1] (Lib.ev_Weaving___eq__ ks)
def Lib.ev_Weaving___getitem__ (ks : List Nat) : EvS := (sSeq (sIf (tNt (tTru (eIsi (tbY [.int, .bl]) ks (eVar 1)))) (sRet [0, 1] (eRes (rMake 6 3 (Lib.F_Weaving___init__ ks) [] (aCons (eFl [6, 7] ks "firsts" (eVar 0)) (aCons (eBin ixP (eFl [6] ks "events" (eVar 0)) (eVar 1)) aNil))))) sSkip)
  (sSeq (sIf (tNt (tOfE (eChn leP ltP (eCon (.int 0)) (eVar 1) (eRes (rBui lenF (aCons (eFl [6] ks "events" (eVar 0)) aNil)))))) (sRaise 30 "at" (eVar 1)) sSkip)
  (sRet [0, 1] (eBin ixP (eFl [6] ks "events" (eVar 0)) (eVar 1)))))
def Lib.F_Weaving___getitem__ (ks : List Nat) : FSem := fDef 2 [0, 1] (Lib.ev_Weaving___getitem__ ks)
namespace Lk12
abbrev ks : List Nat := [6]
def eb_law_1 : EvS := (sSeq (sAsg (eRes (rCall 2 Lib.F_h_weaving [] (aCons (eVar 1) (aCons (eCon (.int 40)) aNil)))) (gTpL 2 (gsCons (gNm 3) (gsCons (gNm 4) gsNil))))
  (sSeq (sAsg (eOf (fComp (iAny [0] (eVar 4)) (gNm 5) tYesT (eIf (tBl (eBin eqP (eBin ixP (eVar 5) (eCon (.int 0))) (eCon (.str "turn")))) (eTup (aCons (eCon (.str "turn")) (aCons (eRes (rCall 2 Lib.F_h_draw [] (aCons (eVar 1) (aCons (eCon (.int 10000)) aNil)))) aNil))) (eVar 5)) [5])) (gNm 4))
  (sSeq (sPar 6 7 (bCons (rTree (eRes (rMake 6 3 (Lib.F_Weaving___init__ ks) [] (aCons (eVar 3) (aCons (eVar 4) aNil))))) (bCons (rTree (eRes (rCall 2 Lib.F_h_weaving_text [] (aCons (eVar 3) (aCons (eVar 4) aNil))))) bNil)))
  (sSeq (sAsg (eRes (rCls 6 2 (Lib.F_Weaving_read ks) [] (aCons (eVar 7) aNil))) (gNm 8))
  (sSeq (sIf (tOrr (tBl (eBin neP (eRes (rDun1 6 (Lib.F_Weaving___str__ ks) okStr (eVar 6))) (eVar 7))) (tOrr (tBl (eBin neP (eRes (rDun1 6 (Lib.F_Weaving___str__ ks) okStr (eVar 8))) (eVar 7))) (tTst (rDun2 6 (Lib.F_Weaving___eq__ ks) gNot (isIns 6) (eVar 8) (eVar 6))))) (sRet [0] (eCon (.bl false))) sSkip)
  (sSeq (sIf (tBl (eBin neP (eRes (rBui reprF (aCons (eTup (aCons (eFl [6, 7] ks "firsts" (eVar 8)) (aCons (eFl [6] ks "events" (eVar 8)) aNil))) aNil))) (eRes (rBui reprF (aCons (eTup (aCons (eRes (rBui tupleF (aCons (eVar 3) aNil))) (aCons (eRes (rBui tupleF (aCons (eVar 4) aNil))) aNil))) aNil))))) (sRet [0] (eCon (.bl false))) sSkip)
  (sSeq (sAsg (eOf (fComp (iAny [0] (eVar 4)) (gNm 5) tYesT (eRes (rCls 6 2 (Lib.F_Weaving_read ks) [] (aCons (eRes (rBin addA (eRes (rBin addA (eRes (rMet "str" joinM (eCon (.str " ")) (aCons (eVar 3) aNil))) (eCon (.str "; ")))) (eRes (rCall 1 Lib.F_h_event_text [] (aCons (eVar 5) aNil))))) aNil))) [5])) (gNm 9))
  (sIf (tOrr (tBl (eBin neP (eOf (fComp (iAny [0] (eVar 9)) (gNm 10) tYesT (eRes (rDun2 6 (Lib.F_Weaving___getitem__ ks) gId anyY (eVar 10) (eCon (.int 0)))) [10])) (eVar 4))) (tTst (rDun2 6 (Lib.F_Weaving___eq__ ks) gNot (isIns 6) (eRes (rCls 6 2 (Lib.F_Weaving_read ks) [] (aCons (eRes (rMet "str" joinM (eCon (.str " ")) (aCons (eVar 3) aNil))) aNil))) (eRes (rMake 6 3 (Lib.F_Weaving___init__ ks) [.tup []] (aCons (eVar 3) aNil)))))) (sRet [0] (eCon (.bl false))) sSkip))))))))
def ev_law : EvS := (sSeq (sOwn 1 (fRes (rCall 2 Lib.F_h_deal [] (aCons (eVar 0) (aCons (eCon (.int 0)) aNil)))))
  (sSeq (sFor (iRngA (aCons (eCon (.int 8)) aNil)) (gNm 2) eb_law_1)
  (sRet [0] (eRes (rDun2 6 (Lib.F_Weaving___eq__ ks) gBl (isIns 6) (eRes (rCls 6 2 (Lib.F_Weaving_read ks) [] (aCons (eCon (.str "a b; back 1 ok; turn 9999")) aNil))) (eRes (rMake 6 3 (Lib.F_Weaving___init__ ks) [] (aCons (eLst (aCons (eCon (.str "a")) (aCons (eCon (.str "b")) aNil))) (aCons (eLst (aCons (eTup (aCons (eCon (.str "back")) (aCons (eCon (.int 1)) (aCons (eCon (.str "ok")) aNil)))) (aCons (eTup (aCons (eCon (.str "turn")) (aCons (eCon (.int 9999)) aNil))) aNil))) aNil)))))))))
def F_law : FSem := fDef 11 [0] ev_law
end Lk12
end
section
/-! defs as functions of trees, first met in law k11; printed by wip/gen2.py -/
open PySem PySem.Spec PyProof.Rows L2 TreeL
def Lib.ev_Weaving___add__ (ks : List Nat) : EvS := (sSeq (sIf (tNt (tTru (eIsi (tbY [.ins 6]) ks (eVar 1)))) (fun _ => .bad) sSkip)
  (sSeq (sIf (tBl (eBin neP (eFl [6, 7] ks "firsts" (eVar 0)) (eFl [6, 7] ks "firsts" (eVar 1)))) (sRaise0 28) sSkip)
  (sRet [0, 1] (eRes (rMake 6 3 (Lib.F_Weaving___init__ ks) [] (aCons (eFl [6, 7] ks "firsts" (eVar 0)) (aCons (eRes (rBin addA (eFl [6] ks "events" (eVar 0)) (eFl [6] ks "events" (eVar 1)))) aNil)))))))
def Lib.F_Weaving___add__ (ks : List Nat) : FSem := fDef 2 [0, 1] (Lib.ev_Weaving___add__ ks)
def Lib.ev_h_tried (ks : List Nat) : EvS := (sSeq (sAsg (eCon (.str "other")) (gNm 2))
  (sSeq (sTry 3 [0, 1] [28, 23] [28] (sAsg (eFl [6] ks "events" (eRes (rDun2 6 (Lib.F_Weaving___add__ ks) gId (isIns 6) (eVar 0) (eVar 1)))) (gNm 2)) (fun y => (sAsg (eIf (tAn (tTru (eXi [28, 23] y)) (tNt (tTru (eXi [] y)))) (eCon (.str "mismatch")) (eCon (.str "other"))) (gNm 2))))
  (sRet [0, 1] (eVar 2))))
def Lib.F_h_tried (ks : List Nat) : FSem := fDef 4 [0, 1] (Lib.ev_h_tried ks)
def Lib.eb_Weaving_alone_1 (ks : List Nat) : EvS := (sIf (tBl (eBin eqP (eBin ixP (eVar 3) (eCon (.int 0))) (eCon (.str "turn")))) (sEx (eMut "list" appendO 2 (aCons (eVar 3) aNil))) (sIf (tBl (eBin eqP (eBin ixP (eVar 3) (eCon (.int 1))) (eVar 1))) (sEx (eMut "list" appendO 2 (aCons (eTup (aCons (eBin ixP (eVar 3) (eCon (.int 0))) (aCons (eCon (.int 0)) (aStar (eRes (rSl (eVar 3) (oSo (eCon (.int 2))) oNo)) aNil)))) aNil))) sSkip))
def Lib.ev_Weaving_alone (ks : List Nat) : EvS := (sSeq (sOwn 2 (fLst aNil))
  (sSeq (sFor (iAny [0, 1] (eFl [6] ks "events" (eVar 0))) (gNm 3) (Lib.eb_Weaving_alone_1 ks))
  (sRet [0, 1] (eRes (rMake 6 3 (Lib.F_Weaving___init__ ks) [] (aCons (eRes (rSl (eFl [6, 7] ks "firsts" (eVar 0)) (oSo (eVar 1)) (oSo (eRes (rBin addA (eVar 1) (eCon (.int 1))))))) (aCons (eFrz [0, 1] (eVar 2)) aNil)))))))
def Lib.F_Weaving_alone (ks : List Nat) : FSem := fDef 4 [0, 1] (Lib.ev_Weaving_alone ks)
def Lib.ev_Weaving___getitem___b (ks : List Nat) : EvS := (sSeq (sIf (tNt (tTru (eIsX (some false) (tbY [.int, .bl]) ks (eVar 1)))) (sRet [0, 1] (eRes (rMake 6 3 (Lib.F_Weaving___init__ ks) [] (aCons (eFl [6, 7] ks "firsts" (eVar 0)) (aCons (eRes (rIxS (eFl [6] ks "events" (eVar 0)) (eVar 1))) aNil))))) sSkip)
  (sSeq (sIf (tNt (tOfE (eChn leP ltP (eCon (.int 0)) (eVar 1) (eRes (rBui lenF (aCons (eFl [6] ks "events" (eVar 0)) aNil)))))) (sRaise 30 "at" (eVar 1)) sSkip)
  (sRet [0, 1] (eRes (rIxS (eFl [6] ks "events" (eVar 0)) (eVar 1))))))
def Lib.F_Weaving___getitem___b (ks : List Nat) : FSem := fDef 2 [0, 1] (Lib.ev_Weaving___getitem___b ks)
namespace Lk11
abbrev ks : List Nat := [6]
def eb_law_1 : EvS := (sAsg (eOf (fComp (iAny [0] (eVar 4)) (gNm 13) (tOrr (tBl (eBin eqP (eBin ixP (eVar 13) (eCon (.int 0))) (eCon (.str "turn")))) (tBl (eBin eqP (eBin ixP (eVar 13) (eCon (.int 1))) (eVar 11)))) (eVar 13) [13])) (gNm 12))
def eb_law_2 : EvS := (sAsg (eOf (fComp (iAny [0] (eVar 12)) (gNm 13) tYesT (eIf (tBl (eBin eqP (eBin ixP (eVar 13) (eCon (.int 0))) (eCon (.str "turn")))) (eVar 13) (eRes (rBin addA (eTup (aCons (eBin ixP (eVar 13) (eCon (.int 0))) (aCons (eCon (.int 0)) aNil))) (eRes (rSl (eVar 13) (oSo (eCon (.int 2))) oNo))))) [13])) (gNm 12))
def eb_law_3 : EvS := (sAsg (eRes (rMeth 6 "alone" 2 (Lib.F_Weaving_alone ks) [] (eVar 8) (aCons (eVar 11) aNil))) (gNm 14))
def eb_law_4 : EvS := (sIf (tOrr (tBl (eBin neP (eFl [6, 7] ks "firsts" (eVar 14)) (eTup (aCons (eBin ixP (eVar 3) (eVar 11)) aNil)))) (tOrr (tBl (eBin neP (eFl [6] ks "events" (eVar 14)) (eRes (rBui tupleF (aCons (eVar 12) aNil))))) (tTst (rDun2 6 (Lib.F_Weaving___eq__ ks) gNot (isIns 6) (eVar 14) (eRes (rMeth 6 "alone" 2 (Lib.F_Weaving_alone ks) [] (eVar 8) (aCons (eVar 11) aNil))))))) (sRet [0] (eCon (.bl false))) sSkip)
def eb_law_5 : EvS := (sSeq eb_law_1
  (sSeq eb_law_2
  (sSeq eb_law_3
  eb_law_4)))
def eb_law_6 : EvS := (sAsg (eVar 8) (gNm 15))
def eb_law_7 : EvS := (sAsg (eRes (rDun2 6 (Lib.F_Weaving___add__ ks) gId (isIns 6) (eVar 15) (eVar 9))) (gNm 15))
def eb_law_8 : EvS := (sIf (tOrr (tBl (eBin neP (eFl [6] ks "events" (eVar 15)) (eVar 10))) (tOrr (tBl (eBin neP (eFl [6, 7] ks "firsts" (eVar 15)) (eRes (rBui tupleF (aCons (eVar 3) aNil))))) (tBl (eBin neP (eFl [6] ks "events" (eVar 8)) (eRes (rBui tupleF (aCons (eVar 4) aNil))))))) (sRet [0] (eCon (.bl false))) sSkip)
def eb_law_9 : EvS := (sIf (tOrr (tTst (rDun2 6 (Lib.F_Weaving___eq__ ks) gNot (isIns 6) (eRes (rDun2 6 (Lib.F_Weaving___add__ ks) gId (isIns 6) (eVar 8) (eRes (rMake 6 3 (Lib.F_Weaving___init__ ks) [.tup []] (aCons (eVar 3) aNil))))) (eVar 8))) (tOrr (tTst (rDun2 6 (Lib.F_Weaving___eq__ ks) gNot (isIns 6) (eRes (rDun2 6 (Lib.F_Weaving___getitem___b ks) gId anyY (eRes (rDun2 6 (Lib.F_Weaving___add__ ks) gId (isIns 6) (eVar 8) (eVar 9))) (eSlcE oNo (oSo (eRes (rBui lenF (aCons (eVar 4) aNil))))))) (eVar 8))) (tTst (rDun2 6 (Lib.F_Weaving___eq__ ks) gNot (isIns 6) (eRes (rDun2 6 (Lib.F_Weaving___getitem___b ks) gId anyY (eRes (rDun2 6 (Lib.F_Weaving___add__ ks) gId (isIns 6) (eVar 8) (eVar 9))) (eSlcE (oSo (eRes (rBui lenF (aCons (eVar 4) aNil)))) oNo))) (eVar 9))))) (sRet [0] (eCon (.bl false))) sSkip)
def eb_law_10 : EvS := (sAsg (eRes (rCall 2 Lib.F_h_weaving [] (aCons (eVar 1) (aCons (eCon (.int 20)) aNil)))) (gTpL 2 (gsCons (gNm 3) (gsCons (gNm 4) gsNil))))
def eb_law_11 : EvS := (sAsg (eRes (rCall 2 Lib.F_h_weaving [] (aCons (eVar 1) (aCons (eCon (.int 20)) aNil)))) (gTpL 2 (gsCons (gNm 5) (gsCons (gNm 6) gsNil))))
def eb_law_12 : EvS := (sIf (tBl (eBin eqP (eRes (rCall 2 Lib.F_h_draw [] (aCons (eVar 1) (aCons (eCon (.int 2)) aNil)))) (eCon (.int 0)))) (sSeq (sAsg (eRes (rBui listF (aCons (eVar 3) aNil))) (gNm 5))
  (sAsg (eOf (fComp (iRngA (aCons (eRes (rCall 2 Lib.F_h_draw [] (aCons (eVar 1) (aCons (eCon (.int 9)) aNil)))) aNil)) (gNm 7) tYesT (eRes (rCall 3 Lib.F_h_event [] (aCons (eVar 1) (aCons (eRes (rBui lenF (aCons (eVar 3) aNil))) (aCons (eLst (aCons (eCon (.str "a")) (aCons (eCon (.str "b")) aNil))) aNil))))) [7])) (gNm 6))) sSkip)
def eb_law_13 : EvS := (sPar 8 9 (bCons (rTree (eRes (rMake 6 3 (Lib.F_Weaving___init__ ks) [] (aCons (eVar 3) (aCons (eVar 4) aNil))))) (bCons (rTree (eRes (rMake 6 3 (Lib.F_Weaving___init__ ks) [] (aCons (eVar 5) (aCons (eVar 6) aNil))))) bNil)))
def eb_law_14 : EvS := (sAsg (eIf (tBl (eBin eqP (eVar 3) (eVar 5))) (eRes (rBui tupleF (aCons (eRes (rBin addA (eVar 4) (eVar 6))) aNil))) (eCon (.str "mismatch"))) (gNm 10))
def eb_law_15 : EvS := (sIf (tOrr (tBl (eBin neP (eRes (rCall 2 (Lib.F_h_tried ks) [] (aCons (eVar 8) (aCons (eVar 9) aNil)))) (eVar 10))) (tOrr (tBl (eBin neP (eFl [6] ks "events" (eVar 8)) (eRes (rBui tupleF (aCons (eVar 4) aNil))))) (tBl (eBin neP (eFl [6] ks "events" (eVar 9)) (eRes (rBui tupleF (aCons (eVar 6) aNil))))))) (sRet [0] (eCon (.bl false))) sSkip)
def eb_law_16 : EvS := (sFor (iRngA (aCons (eRes (rBui lenF (aCons (eVar 3) aNil))) aNil)) (gNm 11) eb_law_5)
def eb_law_17 : EvS := (sIf (tBl (eBin eqP (eVar 3) (eVar 5))) (sSeq eb_law_6
  (sSeq eb_law_7
  (sSeq eb_law_8
  eb_law_9))) sSkip)
def eb_law_18 : EvS := (sSeq eb_law_10
  (sSeq eb_law_11
  (sSeq eb_law_12
  (sSeq eb_law_13
  (sSeq eb_law_14
  (sSeq eb_law_15
  (sSeq eb_law_16
  eb_law_17)))))))
def eb_law_19 : EvS := (sOwn 1 (fRes (rCall 2 Lib.F_h_deal [] (aCons (eVar 0) (aCons (eCon (.int 0)) aNil)))))
def eb_law_20 : EvS := (sFor (iRngA (aCons (eCon (.int 6)) aNil)) (gNm 2) eb_law_18)
def eb_law_21 : EvS := (sRet [0] (eCon (.bl true)))
def ev_law : EvS := (sSeq eb_law_19
  (sSeq eb_law_20
  eb_law_21))
def F_law : FSem := fDef 16 [0] ev_law
end Lk11
end
section
/-! PK: plain rules for reckoning with the evaluators: comprehensions, joined and split texts, numbers as texts. -/
namespace TreeL
open PySem PySem.Spec PyProof.Rows L2
theorem lim_eq : LIM = 1000000 := rfl
/-! ### comprehensions over a mapped list -/
theorem wipe_back {env : En} {j : Nat} {x : Option Arg} (hj : env[j]? = some none) : wipeE (env.set j x) [j] = env := by
  simp only [wipeE]
  rw [List.set_set]
  apply List.ext_getElem?
  intro k
  rw [List.getElem?_set]
  by_cases e : j = k
  · subst e
    have := (List.getElem?_eq_some_iff.mp hj).1
    rw [if_pos rfl, if_pos this, hj]
  · rw [if_neg e]
theorem compX {α : Type} {et : EvT} {ea : EvE} {al : En → Bool} {env : En} {j : Nat} (h : α → PV) (p : α → Bool) (f : α → PV) (hal : al env = true) (hj : env[j]? = some none) : ∀ (xs : List α) (acc : List PV), acc.length + xs.length ≤ 1000000 →
    (∀ x ∈ xs, et (env.set j (some (.t (h x)))) = .ok (p x) (env.set j (some (.t (h x)))) ∧ (p x = true → ea (env.set j (some (.t (h x)))) = .ok (.tr (f x)) (env.set j (some (.t (h x)))))) → compL (gNm j) et ea [j] al (xs.map h) acc env = .ok (acc ++ (xs.filter p).map f) env
  | [], acc, _, _ => by simp [compL, hal]
  | x :: xs, acc, hl, hs => by
    rw [List.length_cons] at hl
    have hlt : acc.length < LIM := by unfold LIM; omega
    obtain ⟨s1, s2⟩ := hs x List.mem_cons_self
    cases hp : p x with
    | true =>
      have r := compX (et := et) (ea := ea) (al := al) h p f hal hj xs (acc ++ [f x]) (by rw [List.length_append, List.length_singleton]; omega) fun y hy => hs y (List.mem_cons_of_mem _ hy)
      rw [hp] at s1
      simp only [List.map_cons, compL, hal, gNm, s1, s2 hp, hlt, if_true, wipe_back hj, List.filter_cons, hp]
      refine Eq.trans r ?_
      simp
    | false =>
      have r := compX (et := et) (ea := ea) (al := al) h p f hal hj xs acc (by omega) fun y hy => hs y (List.mem_cons_of_mem _ hy)
      rw [hp] at s1
      simp only [List.map_cons, compL, hal, gNm, s1, if_true, if_false, Bool.false_eq_true, wipe_back hj, List.filter_cons, hp]
      exact r
/-- without a test -/
theorem compY {α : Type} {ea : EvE} {al : En → Bool} {env : En} {j : Nat} (h f : α → PV) (hal : al env = true) (hj : env[j]? = some none) (xs : List α) (hl : xs.length ≤ 1000000)
    (hs : ∀ x ∈ xs, ea (env.set j (some (.t (h x)))) = .ok (.tr (f x)) (env.set j (some (.t (h x))))) : compL (gNm j) tYesT ea [j] al (xs.map h) [] env = .ok (xs.map f) env := by
  have r := compX (et := tYesT) (ea := ea) (al := al) h (fun _ => true) f hal hj xs [] (by simpa using hl) fun x hx => ⟨rfl, fun _ => hs x hx⟩
  rw [r, List.filter_eq_self.mpr fun _ _ => rfl]
  rfl
/-- over the list itself -/
theorem compZ {et : EvT} {ea : EvE} {al : En → Bool} {env : En} {j : Nat} (p : PV → Bool) (f : PV → PV) (hal : al env = true) (hj : env[j]? = some none) (xs : List PV) (hl : xs.length ≤ 1000000)
    (hs : ∀ x ∈ xs, et (env.set j (some (.t x))) = .ok (p x) (env.set j (some (.t x))) ∧ (p x = true → ea (env.set j (some (.t x))) = .ok (.tr (f x)) (env.set j (some (.t x))))) : compL (gNm j) et ea [j] al xs [] env = .ok ((xs.filter p).map f) env := by
  have r := compX (et := et) (ea := ea) (al := al) id p f hal hj xs [] (by simpa using hl) hs
  rw [List.map_id] at r
  rw [r, List.nil_append]
theorem boolsP_map {α : Type} (p : α → Bool) : ∀ xs : List α, boolsP (xs.map fun x => PV.bl (p x)) = some (xs.map p)
  | [] => rfl
  | x :: xs => by simp [boolsP, boolsP_map p xs]
theorem allF_map {α : Type} (p : α → Bool) (xs : List α) : allF [.lst (xs.map fun x => PV.bl (p x))] = some (.t (.bl (xs.all p))) := by
  simp only [allF, boolsP_map, Option.map_some]
  rw [show (xs.map p).all id = xs.all p by rw [List.all_map]; rfl]
theorem anyF_map {α : Type} (p : α → Bool) (xs : List α) : anyF [.lst (xs.map fun x => PV.bl (p x))] = some (.t (.bl (xs.any p))) := by
  simp only [anyF, boolsP_map, Option.map_some]
  rw [show (xs.map p).any id = xs.any p by rw [List.any_map]; rfl]
theorem strsP_map (ss : List Str) : strsP (ss.map PV.str) = some ss := by
  induction ss with
  | nil => rfl
  | cons x r ih => simp [strsP, ih]
theorem trees_mapV {α : Type} (f : α → PV) : ∀ xs : List α, trees (xs.map fun x => Vl.tr (f x)) = some (xs.map f)
  | [] => rfl
  | x :: xs => by simp [trees_mapV f xs]
theorem trees_map0 : ∀ xs : List PV, trees (xs.map Vl.tr) = some xs
  | [] => rfl
  | x :: xs => by simp [trees_map0 xs]
theorem ix0 (x : PV) (xs : List PV) : ixP (.tup (x :: xs)) (.int 0) = some x := by
  have : atI (x :: xs) ((0 : Nat) : Int) = some x := atI_nat rfl
  exact this
theorem ix1 (x y : PV) (xs : List PV) : ixP (.tup (x :: y :: xs)) (.int 1) = some y := by
  have : atI (x :: y :: xs) ((1 : Nat) : Int) = some y := atI_nat rfl
  exact this
theorem ix2 (x y z : PV) (xs : List PV) : ixP (.tup (x :: y :: z :: xs)) (.int 2) = some z := by
  have : atI (x :: y :: z :: xs) ((2 : Nat) : Int) = some z := atI_nat rfl
  exact this
theorem lx0 (x : PV) (xs : List PV) : ixP (.lst (x :: xs)) (.int 0) = some x := by
  have : atI (x :: xs) ((0 : Nat) : Int) = some x := atI_nat rfl
  exact this
theorem lx1 (x y : PV) (xs : List PV) : ixP (.lst (x :: y :: xs)) (.int 1) = some y := by
  have : atI (x :: y :: xs) ((1 : Nat) : Int) = some y := atI_nat rfl
  exact this
theorem lx2 (x y z : PV) (xs : List PV) : ixP (.lst (x :: y :: z :: xs)) (.int 2) = some z := by
  have : atI (x :: y :: z :: xs) ((2 : Nat) : Int) = some z := atI_nat rfl
  exact this
/-! ### texts -/
theorem str_ext {x y : Str} (h : TL.tl x = TL.tl y) : x = y := by
  obtain ⟨⟨a⟩⟩ := x
  obtain ⟨⟨b⟩⟩ := y
  simp [TL.tl] at h
  subst h; rfl
theorem sum_le {xs : List Str} {k : Nat} (h : ∀ x ∈ xs, x.length ≤ k) : (xs.map (·.length)).sum ≤ xs.length * k := by
  induction xs with
  | nil => simp
  | cons x r ih =>
    have a := h x List.mem_cons_self
    have b := ih fun y hy => h y (List.mem_cons_of_mem _ hy)
    simp only [List.map_cons, List.sum_cons, List.length_cons, Nat.succ_mul]
    omega
theorem join_ok {a : Str} {ss : List Str} {k : Nat} (h : ∀ s ∈ ss, s.length ≤ k) (hk : ss.length * k + ss.length * a.length ≤ 1000000) : joinM (.str a) [.lst (ss.map .str)] = some (.t (.str (Txt.join a ss))) := by
  have := sum_le h
  simp only [joinM, strsP_map, Option.bind_some]
  rw [if_pos (by unfold LIM; omega)]
theorem join_okT {a : Str} {ss : List Str} {k : Nat} (h : ∀ s ∈ ss, s.length ≤ k) (hk : ss.length * k + ss.length * a.length ≤ 1000000) : joinM (.str a) [.tup (ss.map .str)] = some (.t (.str (Txt.join a ss))) := by
  have := sum_le h
  simp only [joinM, strsP_map, Option.bind_some]
  rw [if_pos (by unfold LIM; omega)]
theorem split_ok {a b : Str} (hb : (b.length == 0) = false) (ha : a.length ≤ 1000000) {ss : List Str} (h : Txt.split a b = ss) : splitM (.str a) [.str b] = some (.ow (.lst (ss.map .str))) := by
  simp only [splitM]
  rw [if_pos ⟨hb, by unfold LIM; exact ha⟩, h]
theorem joinL_lenS (S : List Nat) : ∀ ps : List (List Nat), (TL.joinL S ps).length ≤ (ps.map List.length).sum + ps.length * S.length
  | [] => by simp [TL.joinL]
  | [p] => by simp [TL.joinL]
  | p :: q :: r => by
    have := joinL_lenS S (q :: r)
    simp only [TL.joinL, List.length_append, List.map_cons, List.sum_cons, List.length_cons] at this ⊢
    have e : (r.length + 1 + 1) * S.length = (r.length + 1) * S.length + S.length := Nat.succ_mul _ _
    omega
theorem tl_joinS (a : Str) (ss : List Str) : TL.tl (Txt.join a ss) = TL.joinL (TL.tl a) (ss.map TL.tl) := by rw [TL.join_eq, TL.tl_join]
theorem join_lenS {a : Str} {ss : List Str} {k : Nat} (h : ∀ s ∈ ss, s.length ≤ k) : (Txt.join a ss).length ≤ ss.length * k + ss.length * a.length := by
  have h1 := joinL_lenS (TL.tl a) (ss.map TL.tl)
  rw [← tl_joinS, ← TL.len_tl, List.length_map, ← TL.len_tl, List.map_map] at h1
  have h2 := sum_le h
  have e : (ss.map (List.length ∘ TL.tl)) = ss.map (·.length) := by
    apply List.map_congr_left
    intro s _
    exact (TL.len_tl s).symm
  rw [e] at h1
  omega
theorem join_memS {x : Nat} {a : Str} {ss : List Str} (h : x ∈ TL.tl (Txt.join a ss)) : x ∈ TL.tl a ∨ ∃ s ∈ ss, x ∈ TL.tl s := by
  rw [tl_joinS] at h
  rcases joinL_mem h with z | ⟨p, hp, z⟩
  · exact .inl z
  · obtain ⟨s, hs, rfl⟩ := List.mem_map.mp hp
    exact .inr ⟨s, hs, z⟩
/-! ### numbers as texts -/
def numS (i : Int) : Str := Str.ofString (toString i)
theorem tl_numS {i : Int} (h0 : 0 ≤ i) : TL.tl (numS i) = TL.numL i.toNat := by
  obtain ⟨k, rfl⟩ : ∃ k : Nat, i = k := ⟨i.toNat, by omega⟩
  unfold numS
  rw [TL.tl_num]
  simp
theorem numS_len {i : Int} {k : Nat} (hk : 0 < k) (h0 : 0 ≤ i) (h1 : i < 10 ^ k) : (numS i).length ≤ k := by
  have e : i.toNat < 10 ^ k := by
    have : (i.toNat : Int) < ((10 ^ k : Nat) : Int) := by rw [Int.toNat_of_nonneg h0]; exact_mod_cast h1
    exact_mod_cast this
  have := TL.numL_len (n := i.toNat) (k := k) hk e
  rw [← tl_numS h0] at this
  rw [TL.len_tl]
  exact this
theorem numS_digits {i : Int} (h0 : 0 ≤ i) : ∀ n ∈ TL.tl (numS i), 48 ≤ n ∧ n ≤ 57 := fun n hn => by
  rw [tl_numS h0] at hn
  exact TL.numL_digits i.toNat n hn
theorem numL_head : ∀ {n : Nat}, 0 < n → ∃ c r, TL.numL n = c :: r ∧ c ≠ 48 := by
  intro n
  induction n using Nat.strongRecOn with
  | ind n ih =>
    intro h
    by_cases h1 : n < 10
    · exact ⟨48 + n, [], TL.numL_lt h1, by omega⟩
    · obtain ⟨c, r, e, hc⟩ := ih (n / 10) (by omega) (by omega)
      exact ⟨c, r ++ [48 + n % 10], by rw [TL.numL_step (by omega), e]; rfl, hc⟩
theorem str_num {i : Int} (h0 : 0 ≤ i) (h1 : i < 10 ^ 100) : strF [.int i] = some (.t (.str (numS i))) := by
  simp only [strF, numS, if_pos (And.intro h0 h1)]
/-! ### one sign in a text -/
theorem in_sign (n : Nat) (y : Str) : inP (.str ⟨#[n]⟩) (.str y) = some (.bl (decide (n ∈ TL.tl y))) := rfl
/-! ### what may be shown -/
def Sh (k : Nat) (x : Str) : Prop := x.length ≤ k ∧ ∀ c ∈ TL.tl x, c < 0x110000
theorem Sh.mono {k m : Nat} {x : Str} (h : Sh k x) (l : k ≤ m) : Sh m x := ⟨Nat.le_trans h.1 l, h.2⟩
theorem sh_by {k : Nat} {x : Str} (h : (decide (x.length ≤ k) && (TL.tl x).all fun c => decide (c < 0x110000)) = true) : Sh k x := by
  rw [Bool.and_eq_true] at h
  exact ⟨of_decide_eq_true h.1, fun c hc => of_decide_eq_true (List.all_eq_true.mp h.2 c hc)⟩
theorem tup_sh {ts : List Str} {k : Nat} (h : ∀ x ∈ ts, Sh k x) : Sh (ts.length * k + 2 * ts.length + 3) (tupleText ts) := by
  refine ⟨?_, fun c hc => ?_⟩
  · have a := tupleText_len_le ts
    have b := sum_le fun x hx => (h x hx).1
    omega
  · have w : ∀ s : Str, ((TL.tl s).all fun c => decide (c < 0x110000)) = true → ∀ c ∈ TL.tl s, c < 0x110000 := fun s hs c hc => of_decide_eq_true (List.all_eq_true.mp hs c hc)
    unfold tupleText at hc
    rw [TL.tl_append, TL.tl_append, TL.tl_join] at hc
    simp only [List.mem_append] at hc
    rcases hc with (z | z) | z
    · exact w _ (by decide +kernel) c z
    · rcases joinL_mem z with z | ⟨p, hp, z⟩
      · exact w _ (by decide +kernel) c z
      · obtain ⟨x, hx, rfl⟩ := List.mem_map.mp hp
        exact (h x hx).2 c z
    · split at z
      · exact w _ (by decide +kernel) c z
      · exact w _ (by decide +kernel) c z
end TreeL
end
section
/-! PWv: what the defs of weavings and of their helpers answer, for any data; plain Lean. -/
namespace Pw
open PySem PySem.Spec PyProof.Rows L2 TreeL
theorem draw_eq : Lib.F_h_draw = A.F_draw := rfl
theorem deal_eq : Lib.F_h_deal = A.F_deal := rfl
theorem mixed_eq : Lib.F_h_mixed = A.F_mixed := rfl
theorem pick_eq : Lib.F_h_pick = A.F_pick := rfl
/-! ### names -/
def alphaL : List Nat := TL.tl "abcdefghijklmnopqrstuvwxyz"
def barL : List PySem.Str := ["and", "any", "do", "if", "none", "not", "same", "send", "then", "time", "to", "wipe", "work"]
def barB (s : PySem.Str) : Bool := barL.any fun z => z == s
def nmS (s : PySem.Str) : Bool := decide (1 ≤ s.length ∧ s.length ≤ 4) && !barB s && (TL.tl s).all fun n => decide (n ∈ alphaL)
def nmB : PV → Bool
  | .str s => nmS s
  | _ => false
theorem peq_str (a b : PySem.Str) : peq (.str a) (.str b) = (a == b) := rfl
theorem datL_str (n : Nat) (xs : List PySem.Str) : datL n (xs.map .str) = true := by
  rw [datL_all, List.all_eq_true]
  intro t ht
  obtain ⟨w, _, rfl⟩ := List.mem_map.mp ht
  cases n <;> rfl
theorem in_strs (s : PySem.Str) (bs : List PySem.Str) : inP (.str s) (.tup (bs.map .str)) = some (.bl (bs.any fun z => z == s)) := by
  have d1 : dat 63 (.str s) = true := rfl
  simp only [inP, inB, d1, datL_str, Bool.and_self, if_true, Option.map_some, List.any_map]
  rfl
theorem in_strsL (s : PySem.Str) (bs : List PySem.Str) : inP (.str s) (.lst (bs.map .str)) = some (.bl (bs.any fun z => z == s)) := by
  have d1 : dat 63 (.str s) = true := rfl
  simp only [inP, inB, d1, datL_str, Bool.and_self, if_true, Option.map_some, List.any_map]
  rfl
theorem signs_tl (s : PySem.Str) : TreeL.signs s = (TL.tl s).map fun n => PV.str ⟨#[n]⟩ := rfl
theorem tl_len (s : PySem.Str) : (TL.tl s).length = s.length := (TL.len_tl s).symm
theorem in_alpha (n : Nat) : inP (.str ⟨#[n]⟩) (.str "abcdefghijklmnopqrstuvwxyz") = some (.bl (decide (n ∈ alphaL))) := rfl
theorem is_name_str (ks : List Nat) (s : PySem.Str) : Lib.F_is_name ks [.t (.str s)] = .ret (.t (.bl (nmS s))) [.t (.str s)] := by
  have hb := in_strs s barL
  simp only [barL, List.map_cons, List.map_nil] at hb
  rw [show (["and", "any", "do", "if", "none", "not", "same", "send", "then", "time", "to", "wipe", "work"] : List PySem.Str) = barL from rfl] at hb
  rw [show (barL.any fun z => z == s) = barB s from rfl] at hb
  by_cases h1 : 1 ≤ s.length
  · by_cases h4 : s.length ≤ 4
    · have g1 : (1 : Int) ≤ (s.length : Int) := by omega
      have g4 : ((s.length : Nat) : Int) ≤ 4 := by omega
      cases hq : barB s with
      | true =>
        rw [hq] at hb
        simp [Lib.F_is_name, fDef, Lib.ev_is_name, lenF, g1, g4, hb, nmS, h1, h4, hq]
      | false =>
        rw [hq] at hb
        have c1 := compY (ea := eBin inP (eVar 1) (eCon (.str "abcdefghijklmnopqrstuvwxyz"))) (al := alive (.tr .non) (TreeL.signs s)) (env := [some (.t (.str s)), none]) (j := 1) (fun n => PV.str ⟨#[n]⟩) (fun n => PV.bl (decide (n ∈ alphaL))) rfl rfl (TL.tl s) (by rw [tl_len]; omega) (fun n _ => by simp [in_alpha])
        rw [← signs_tl] at c1
        simp [Lib.F_is_name, fDef, Lib.ev_is_name, lenF, g1, g4, hb, nmS, h1, h4, hq, c1, allF_map]
    · have g4 : ¬ ((s.length : Nat) : Int) ≤ 4 := by omega
      have g1 : (1 : Int) ≤ (s.length : Int) := by omega
      simp [Lib.F_is_name, fDef, Lib.ev_is_name, lenF, g1, g4, nmS, h4]
  · have g1 : ¬ (1 : Int) ≤ (s.length : Int) := by omega
    simp [Lib.F_is_name, fDef, Lib.ev_is_name, lenF, g1, nmS, h1]
theorem is_name_dat {ks : List Nat} {n : Nat} {v : PV} (h : dat n v = true) : Lib.F_is_name ks [.t v] = .ret (.t (.bl (nmB v))) [.t v] := by
  cases v with
  | str s => exact is_name_str ks s
  | non => rfl
  | bl b => rfl
  | int i => rfl
  | lst xs => rfl
  | tup xs => rfl
  | _ => cases n <;> cases h
def seqB : PV → Bool
  | .lst _ => true
  | .tup _ => true
  | _ => false
def items : PV → List PV
  | .lst xs => xs
  | .tup xs => xs
  | _ => []
theorem items_dat {n : Nat} {v : PV} (h : dat (n + 1) v = true) : ∀ x ∈ items v, dat n x = true := by
  cases v with
  | lst xs => rw [dat, datL_all, List.all_eq_true] at h; exact h
  | tup xs => rw [dat, datL_all, List.all_eq_true] at h; exact h
  | _ => intro x hx; cases hx
theorem is_seq {ks : List Nat} {n : Nat} {v : PV} (h : dat n v = true) : Lib.F_is_sequence ks [.t v] = .ret (.t (.bl (seqB v))) [.t v] := by
  cases v with
  | str s => rfl
  | non => rfl
  | bl b => rfl
  | int i => rfl
  | lst xs => rfl
  | tup xs => rfl
  | _ => cases n <;> cases h
def namesB (v : PV) : Bool := seqB v && (items v).all nmB
def firstsB (v : PV) : Bool := namesB v && decide (0 < (items v).length)
theorem are_names {ks : List Nat} {n : Nat} {v : PV} (h : dat (n + 1) v = true) (hl : (items v).length ≤ 1000000) : Lib.F_are_names ks [.t v] = .ret (.t (.bl (namesB v))) [.t v] := by
  have sq := is_seq (ks := ks) h
  have hd := items_dat h
  have c1 := compY (ea := eRes (rCall 1 (Lib.F_is_name ks) [] (aCons (eVar 1) aNil))) (al := alive (.tr .non) (items v)) (env := [some (.t v), none]) (j := 1) id (fun x => PV.bl (nmB x)) rfl rfl (items v) hl (fun x hx => by simp [is_name_dat (hd x hx)])
  rw [List.map_id] at c1
  cases v with
  | lst xs => simp only [items] at c1; simp [Lib.F_are_names, fDef, Lib.ev_are_names, sq, namesB, seqB, items, c1, allF_map]
  | tup xs => simp only [items] at c1; simp [Lib.F_are_names, fDef, Lib.ev_are_names, sq, namesB, seqB, items, c1, allF_map]
  | _ => simp [Lib.F_are_names, fDef, Lib.ev_are_names, sq, namesB, seqB]
theorem are_firsts {ks : List Nat} {n : Nat} {v : PV} (h : dat (n + 1) v = true) (hl : (items v).length ≤ 1000000) : Lib.F_are_firsts ks [.t v] = .ret (.t (.bl (firstsB v))) [.t v] := by
  have nm := are_names (ks := ks) h hl
  cases hq : namesB v with
  | false =>
    rw [hq] at nm
    simp [Lib.F_are_firsts, fDef, Lib.ev_are_firsts, nm, firstsB, hq]
  | true =>
    have sq : seqB v = true := by unfold namesB at hq; rw [Bool.and_eq_true] at hq; exact hq.1
    rw [hq] at nm
    cases v with
    | lst xs => simp [Lib.F_are_firsts, fDef, Lib.ev_are_firsts, nm, firstsB, hq, lenF, items]; exact decide_eq_decide.mpr Iff.rfl
    | tup xs => simp [Lib.F_are_firsts, fDef, Lib.ev_are_firsts, nm, firstsB, hq, lenF, items]; exact decide_eq_decide.mpr Iff.rfl
    | _ => cases sq
/-! ### events -/
def intB : PV → Bool
  | .int _ => true
  | _ => false
def stepB (m : Int) : PV → Bool
  | .int i => decide (0 ≤ i ∧ i < m)
  | _ => false
def natB : PV → Bool
  | .int i => decide (0 ≤ i)
  | _ => false
theorem is_integer {ks : List Nat} {n : Nat} {v : PV} (h : dat n v = true) : Lib.F_is_integer ks [.t v] = .ret (.t (.bl (intB v))) [.t v] := by
  cases v with
  | str s => rfl
  | non => rfl
  | bl b => rfl
  | int i => rfl
  | lst xs => rfl
  | tup xs => rfl
  | _ => cases n <;> cases h
theorem is_step {ks : List Nat} {n : Nat} {v : PV} {m : Int} (h : dat n v = true) : Lib.F_is_step ks [.t v, .t (.int m)] = .ret (.t (.bl (stepB m v))) [.t v, .t (.int m)] := by
  have hi := is_integer (ks := ks) h
  cases v with
  | int i =>
    by_cases h0 : 0 ≤ i <;> by_cases h1 : i < m <;> simp [Lib.F_is_step, fDef, Lib.ev_is_step, hi, intB, stepB, h0, h1]
  | str s => simp [Lib.F_is_step, fDef, Lib.ev_is_step, hi, intB, stepB]
  | non => simp [Lib.F_is_step, fDef, Lib.ev_is_step, hi, intB, stepB]
  | bl b => simp [Lib.F_is_step, fDef, Lib.ev_is_step, hi, intB, stepB]
  | lst xs => simp [Lib.F_is_step, fDef, Lib.ev_is_step, hi, intB, stepB]
  | tup xs => simp [Lib.F_is_step, fDef, Lib.ev_is_step, hi, intB, stepB]
  | _ => cases n <;> cases h
def doL : List PySem.Str := ["time", "build", "leave", "work", "wipe"]
def saL : List PySem.Str := ["back", "there"]
def doB (s : PySem.Str) : Bool := doL.any fun z => z == s
def saB (s : PySem.Str) : Bool := saL.any fun z => z == s
def evB (m : Int) : PV → Bool
  | .tup [.str w, x] => (doB w && stepB m x) || ((w == ("turn" : PySem.Str)) && natB x)
  | .tup [.str w, x, y] => saB w && stepB m x && nmB y
  | _ => false
theorem do_in (s : PySem.Str) : inP (.str s) (.tup [.str "time", .str "build", .str "leave", .str "work", .str "wipe"]) = some (.bl (doB s)) := in_strs s doL
theorem sa_in (s : PySem.Str) : inP (.str s) (.tup [.str "back", .str "there"]) = some (.bl (saB s)) := in_strs s saL
theorem eq_s (a b : PySem.Str) : eqP (.str a) (.str b) = some (.bl (a == b)) := rfl
theorem ne_s (a b : PySem.Str) : neP (.str a) (.str b) = some (.bl (!(a == b))) := rfl
theorem eq_i (a b : Int) : eqP (.int a) (.int b) = some (.bl (a == b)) := rfl
theorem ne_i (a b : Int) : neP (.int a) (.int b) = some (.bl (!(a == b))) := rfl
theorem doB_turn {w : PySem.Str} (h : doB w = true) : (w == ("turn" : PySem.Str)) = false := by
  cases q : (w == ("turn" : PySem.Str)) with
  | false => rfl
  | true =>
    rw [eq_of_beq q] at h
    exact absurd h (by decide +kernel)
theorem len0 (n : Nat) (h : 0 < n) : ((n : Int) == 0) = false := by
  cases q : ((n : Int) == 0) with
  | false => rfl
  | true => have := eq_of_beq q; omega
theorem is_event {ks : List Nat} {n : Nat} {v : PV} {m : Int} (h : dat (n + 1) v = true) : Lib.F_is_event ks [.t v, .t (.int m)] = .ret (.t (.bl (evB m v))) [.t v, .t (.int m)] := by
  cases v with
  | str s => rfl
  | non => rfl
  | bl b => rfl
  | int i => rfl
  | lst xs => rfl
  | tup xs =>
    rw [dat, datL_all, List.all_eq_true] at h
    match xs, h with
    | [], _ => rfl
    | .non :: _, _ => simp [Lib.F_is_event, fDef, Lib.ev_is_event, lenF, eq_i, ix0, evB]
    | .bl _ :: _, _ => simp [Lib.F_is_event, fDef, Lib.ev_is_event, lenF, eq_i, ix0, evB]
    | .int _ :: _, _ => simp [Lib.F_is_event, fDef, Lib.ev_is_event, lenF, eq_i, ix0, evB]
    | .lst _ :: _, _ => simp [Lib.F_is_event, fDef, Lib.ev_is_event, lenF, eq_i, ix0, evB]
    | .tup _ :: _, _ => simp [Lib.F_is_event, fDef, Lib.ev_is_event, lenF, eq_i, ix0, evB]
    | .dct _ _ :: _, h => exact absurd (h _ List.mem_cons_self) (by cases n <;> simp [dat])
    | .ins _ _ :: _, h => exact absurd (h _ List.mem_cons_self) (by cases n <;> simp [dat])
    | .scr _ :: _, h => exact absurd (h _ List.mem_cons_self) (by cases n <;> simp [dat])
    | .slc _ _ :: _, h => exact absurd (h _ List.mem_cons_self) (by cases n <;> simp [dat])
    | .cls _ :: _, h => exact absurd (h _ List.mem_cons_self) (by cases n <;> simp [dat])
    | [.str w], _ => simp [Lib.F_is_event, fDef, Lib.ev_is_event, lenF, eq_i, ix0, evB, sMatch, cSeq, cNil, seqP]
    | [.str w, x], h =>
      have st := is_step (ks := ks) (m := m) (h x (by simp))
      have it := is_integer (ks := ks) (h x (by simp))
      cases hd : doB w with
      | true =>
        have ht := doB_turn hd
        simp [Lib.F_is_event, fDef, Lib.ev_is_event, lenF, eq_i, ix0, evB, sMatch, cSeq, cNil, seqP, setsE, do_in, hd, st, ht]
      | false =>
        cases ht : (w == ("turn" : PySem.Str)) with
        | false => simp [Lib.F_is_event, fDef, Lib.ev_is_event, lenF, eq_i, ix0, evB, sMatch, cSeq, cNil, seqP, setsE, do_in, hd, eq_s, ht]
        | true =>
          cases x with
          | int i => simp [Lib.F_is_event, fDef, Lib.ev_is_event, lenF, eq_i, ix0, evB, sMatch, cSeq, cNil, seqP, setsE, do_in, hd, eq_s, ht, it, intB, natB]
          | _ => simp [Lib.F_is_event, fDef, Lib.ev_is_event, lenF, eq_i, ix0, evB, sMatch, cSeq, cNil, seqP, setsE, do_in, hd, eq_s, ht, it, intB, natB]
    | [.str w, x, y], h =>
      have st := is_step (ks := ks) (m := m) (h x (by simp))
      have nm := is_name_dat (ks := ks) (h y (by simp))
      cases hd : saB w with
      | true =>
        cases hs : stepB m x with
        | true =>
          rw [hs] at st
          simp [Lib.F_is_event, fDef, Lib.ev_is_event, lenF, eq_i, ix0, evB, sMatch, cSeq, cNil, seqP, setsE, sa_in, hd, st, nm, hs]
        | false =>
          rw [hs] at st
          simp [Lib.F_is_event, fDef, Lib.ev_is_event, lenF, eq_i, ix0, evB, sMatch, cSeq, cNil, seqP, setsE, sa_in, hd, st, hs]
      | false => simp [Lib.F_is_event, fDef, Lib.ev_is_event, lenF, eq_i, ix0, evB, sMatch, cSeq, cNil, seqP, setsE, sa_in, hd]
    | .str w :: x :: y :: z :: r, _ =>
      have e0 : ¬ ((r.length : Int) + 1 + 1 + 1 + 1 = 0) := by omega
      simp [Lib.F_is_event, fDef, Lib.ev_is_event, lenF, eq_i, ix0, evB, sMatch, cSeq, cNil, seqP, e0]
  | _ => cases h
/-! ### a weaving made -/
def badAt (m : Int) : List PV → Nat → Option Nat
  | [], _ => none
  | x :: xs, n => if evB m x then badAt m xs (n + 1) else some n
def dueV (v w : PV) : Option Int := if firstsB v && seqB w then (badAt (items v).length (items w) 0).map fun (k : Nat) => (k : Int) else some 0
def wFs (v w : PV) : List (PySem.Str × PV) := [("firsts", .tup (items v)), ("events", .tup (items w))]
theorem put1 (t : PV) : putFP (Str.ofString "firsts") t [] = [(Str.ofString "firsts", t)] := rfl
theorem put2 (t u : PV) : putFP (Str.ofString "events") u [(Str.ofString "firsts", t)] = [(Str.ofString "firsts", t), (Str.ofString "events", u)] := by
  have h : ¬ (Str.ofString "firsts" = Str.ofString "events") := by decide +kernel
  simp [putFP, h]
theorem init_loop {ks : List Nat} {m : Nat} {a b d : TreeL.Arg} {v : PV} (hv : lenF [v] = some (.t (.int m))) {n : Nat} : ∀ (evs : List PV) (k : Nat) (x y : Option TreeL.Arg), (∀ t ∈ evs, dat (n + 1) t = true) → ∃ x' y', loopF (gTpL 2 (gsCons (gNm 3) (gsCons (gNm 4) gsNil))) (Lib.eb_Weaving___init___1 ks) (fun _ => true) (enumL k evs) [some a, some (.t v), some d, x, y] =
    (match badAt m evs k with
    | none => .nx [some a, some (.t v), some d, x', y']
    | some k => .exc ⟨23, [("at", .int (k : Int))]⟩ [some a, some (.t v), some d, x', y'])
  | [], k, x, y, _ => ⟨x, y, by simp [enumL, loopF, badAt]⟩
  | t :: ts, k, x, y, h => by
    have ok := is_event (ks := ks) (m := m) (h t List.mem_cons_self)
    cases hq : evB m t with
    | true =>
      obtain ⟨x', y', r⟩ := init_loop (ks := ks) (a := a) (b := b) (d := d) hv ts (k + 1) (some (.t (.int k))) (some (.t t)) fun t ht => h t (List.mem_cons_of_mem _ ht)
      refine ⟨x', y', ?_⟩
      rw [hq] at ok
      rw [badAt, hq, if_pos rfl, ← r]
      simp [enumL, loopF, Lib.eb_Weaving___init___1, hv, ok]
    | false =>
      rw [hq] at ok
      refine ⟨some (.t (.int k)), some (.t t), ?_⟩
      rw [badAt, hq]
      simp [enumL, loopF, Lib.eb_Weaving___init___1, hv, ok]
theorem init_v {ks : List Nat} {n : Nat} {v w : PV} (h : dat (n + 1) v = true) (g : dat (n + 2) w = true) (hl : (items v).length ≤ 1000000) :
    Lib.F_Weaving___init__ ks [.ow (.ins 6 []), .t v, .t w] = (match dueV v w with
    | none => .ret (.t .non) [.ow (.ins 6 (wFs v w)), .t v, .t w]
    | some k => .exc ⟨23, [("at", .int k)]⟩ [.ow (.ins 6 []), .t v, .t w]) := by
  have fo := are_firsts (ks := ks) h hl
  have sq := is_seq (ks := ks) g
  cases hf : firstsB v with
  | false =>
    rw [hf] at fo
    simp [Lib.F_Weaving___init__, fDef, Lib.ev_Weaving___init__, fo, dueV, hf]
  | true =>
    rw [hf] at fo
    cases hs : seqB w with
    | false =>
      rw [hs] at sq
      simp [Lib.F_Weaving___init__, fDef, Lib.ev_Weaving___init__, fo, sq, dueV, hf, hs]
    | true =>
      rw [hs] at sq
      have sv : seqB v = true := by unfold firstsB namesB at hf; simp only [Bool.and_eq_true] at hf; exact hf.1.1
      have lv : lenF [v] = some (.t (.int (items v).length)) := by cases v <;> first | rfl | cases sv
      have tv : tupleF [v] = some (.t (.tup (items v))) := by cases v <;> first | rfl | cases sv
      have tw : tupleF [w] = some (.t (.tup (items w))) := by cases w <;> first | rfl | cases hs
      obtain ⟨x', y', r⟩ := init_loop (ks := ks) (a := .ow (.ins 6 [])) (b := .t v) (d := .t w) lv (items w) 0 none none (items_dat g)
      have a1 : alive (.tr .non) (enumL 0 (items w)) = fun _ => true := rfl
      have ie : iEnumS (aCons (eVar 2) aNil) [some (.ow (.ins 6 [])), some (.t v), some (.t w), none, none] = .ok ⟨enumL 0 (items w), .tr .non⟩ [some (.ow (.ins 6 [])), some (.t v), some (.t w), none, none] := by cases w <;> first | rfl | cases hs
      cases hb : badAt (items v).length (items w) 0 with
      | none =>
        rw [hb] at r
        simp [-iEnumS, Lib.F_Weaving___init__, fDef, Lib.ev_Weaving___init__, fo, sq, dueV, hf, hs, hb, sFor, ie, a1, r, tv, tw, sFldT, wFs, put1, put2]
      | some k =>
        rw [hb] at r
        simp [-iEnumS, Lib.F_Weaving___init__, fDef, Lib.ev_Weaving___init__, fo, sq, dueV, hf, hs, hb, sFor, ie, a1, r]
end Pw
end
section
/-! PWd: what the helpers of the laws of weavings draw. -/
namespace Pw
open PySem PySem.Spec PyProof.Rows L2 TreeL
@[local simp] theorem LIM_eq : LIM = 1000000 := rfl
def pool : List PySem.Str := ["new", "off", "yes", "a", "made", "gone", "some", "all", "at", "mark", "make", "lead", "turn", "free", "zzzz"]
def IsName (t : PV) : Prop := ∃ w ∈ pool, t = .str w
theorem IsName.dat {t : PV} (h : IsName t) (n : Nat) : dat n t = true := by
  obtain ⟨w, _, rfl⟩ := h
  cases n <;> rfl
theorem pool_spec : Lib.F_h_pool [] = .ret (.t (.lst (pool.map .str))) [] := by
  simp [Lib.F_h_pool, fDef, Lib.ev_h_pool, addA, pool, LIM]
theorem names_spec {n : Int} {o : OS} (h : IsBox n o) (hn : n ≤ 2 ^ 39) : ∃ ys o', Lib.F_h_names [.ow o, .t (.int 8)] = .ret (.t (.lst ys)) [.ow o', .t (.int 8)] ∧ (∀ y ∈ ys, IsName y) ∧ ys.length = 8 ∧ IsBox (n + 15) o' := by
  obtain ⟨zs, o', q, hp, hb⟩ := A.mixed_spec (xs := pool.map .str) h (by simp [pool]; omega) (by simp [pool]) (fun x hx => by obtain ⟨w, hw, rfl⟩ := List.mem_map.mp hx; rfl)
  have hl : zs.length = 15 := by rw [hp.length_eq]; rfl
  have hc : cutP zs none (some 8) = zs.take 8 := by
    unfold cutP
    simp [HT.sIx, hl]
  refine ⟨zs.take 8, o', ?_, fun y hy => ?_, by rw [List.length_take, hl]; rfl, by simpa [pool] using hb⟩
  · simp [Lib.F_h_names, fDef, Lib.ev_h_names, pool_spec, mixed_eq, q, slA, hc]
  · have := hp.subset (List.mem_of_mem_take hy)
    obtain ⟨w, hw, rfl⟩ := List.mem_map.mp this
    exact ⟨w, hw, rfl⟩
def doW : List PySem.Str := ["time", "build", "leave", "work", "wipe"]
def saW : List PySem.Str := ["there", "back"]
/-- an event of so many steps -/
inductive IsEv (many : Int) : PV → Prop where
  | say {w l : PySem.Str} {s : Int} (h : w ∈ saW) (h0 : 0 ≤ s) (h1 : s < many) (hl : l ∈ pool) : IsEv many (.tup [.str w, .int s, .str l])
  | turn {s : Int} (h0 : 0 ≤ s) (h1 : s < 10000) : IsEv many (.tup [.str "turn", .int s])
  | act {w : PySem.Str} {s : Int} (h : w ∈ doW) (h0 : 0 ≤ s) (h1 : s < many) : IsEv many (.tup [.str w, .int s])
theorem event_spec {n m : Int} {o : OS} {ls : List PV} (h : IsBox n o) (hn : n ≤ 2 ^ 39) (h0 : 0 < m) (hm : m ≤ 4) (hl : 0 < ls.length) (hl2 : ls.length < 100) (hs : ∀ l ∈ ls, IsName l) :
    ∃ t o', Lib.F_h_event [.ow o, .t (.int m), .t (.lst ls)] = .ret (.t t) [.ow o', .t (.int m), .t (.lst ls)] ∧ IsEv m t ∧ IsBox (n + 3) o' := by
  obtain ⟨f, o1, q1, f0, f1, b1⟩ := A.draw_spec (m := 8) h (by omega) (by decide) (by decide)
  obtain ⟨s, o2, q2, s0, s1, b2⟩ := A.draw_spec (m := m) b1 (by omega) h0 (by omega)
  by_cases c1 : f < 2
  · obtain ⟨x, o3, q3, hx, b3⟩ := A.pick_spec (xs := ls) b2 (by omega) hl (by omega)
    obtain ⟨l, hl', rfl⟩ := hs x hx
    have hf : f = 0 ∨ f = 1 := by omega
    rcases hf with rfl | rfl
    · refine ⟨_, o3, ?_, .say (w := "there") (by simp [saW]) s0 s1 hl', b3.mono (by omega)⟩
      simp [Lib.F_h_event, fDef, Lib.ev_h_event, draw_eq, pick_eq, q1, q2, q3, ixP, atI, ixN, LIM]
    · refine ⟨_, o3, ?_, .say (w := "back") (by simp [saW]) s0 s1 hl', b3.mono (by omega)⟩
      simp [Lib.F_h_event, fDef, Lib.ev_h_event, draw_eq, pick_eq, q1, q2, q3, ixP, atI, ixN, LIM]
  · by_cases c2 : f = 2
    · obtain ⟨t, o3, q3, t0, t1, b3⟩ := A.draw_spec (m := 12) b2 (by omega) (by decide) (by decide)
      refine ⟨_, o3, ?_, .turn (s := t) t0 (by omega), b3.mono (by omega)⟩
      subst c2
      simp [Lib.F_h_event, fDef, Lib.ev_h_event, draw_eq, pick_eq, q1, q2, q3, eqP, dat, peq]
    · have hf : f = 3 ∨ f = 4 ∨ f = 5 ∨ f = 6 ∨ f = 7 := by omega
      rcases hf with rfl | rfl | rfl | rfl | rfl
      · refine ⟨_, o2, ?_, .act (w := "time") (by simp [doW]) s0 s1, b2.mono (by omega)⟩
        simp [Lib.F_h_event, fDef, Lib.ev_h_event, draw_eq, pick_eq, q1, q2, ixP, atI, ixN, eqP, dat, peq, LIM]
      · refine ⟨_, o2, ?_, .act (w := "build") (by simp [doW]) s0 s1, b2.mono (by omega)⟩
        simp [Lib.F_h_event, fDef, Lib.ev_h_event, draw_eq, pick_eq, q1, q2, ixP, atI, ixN, eqP, dat, peq, LIM]
      · refine ⟨_, o2, ?_, .act (w := "leave") (by simp [doW]) s0 s1, b2.mono (by omega)⟩
        simp [Lib.F_h_event, fDef, Lib.ev_h_event, draw_eq, pick_eq, q1, q2, ixP, atI, ixN, eqP, dat, peq, LIM]
      · refine ⟨_, o2, ?_, .act (w := "work") (by simp [doW]) s0 s1, b2.mono (by omega)⟩
        simp [Lib.F_h_event, fDef, Lib.ev_h_event, draw_eq, pick_eq, q1, q2, ixP, atI, ixN, eqP, dat, peq, LIM]
      · refine ⟨_, o2, ?_, .act (w := "wipe") (by simp [doW]) s0 s1, b2.mono (by omega)⟩
        simp [Lib.F_h_event, fDef, Lib.ev_h_event, draw_eq, pick_eq, q1, q2, ixP, atI, ixN, eqP, dat, peq, LIM]
theorem IsName.lst {xs : List PV} (h : ∀ x ∈ xs, IsName x) : ∃ ws : List PySem.Str, xs = ws.map .str ∧ ∀ w ∈ ws, w ∈ pool := by
  induction xs with
  | nil => exact ⟨[], rfl, by simp⟩
  | cons x r ih =>
    obtain ⟨ws, e, k⟩ := ih fun y hy => h y (List.mem_cons_of_mem _ hy)
    obtain ⟨w, hw, rfl⟩ := h x List.mem_cons_self
    refine ⟨w :: ws, by rw [e]; rfl, fun y hy => ?_⟩
    rcases List.mem_cons.mp hy with z | z
    · rw [z]; exact hw
    · exact k y z
theorem weaving_spec {n : Int} {o : OS} {mx : Int} (mx0 : 0 ≤ mx) (mx1 : mx ≤ 40) (h : IsBox n o) (hn : n ≤ 2 ^ 38) : ∃ (ws : List PySem.Str) (evs : List PV) (o' : OS), Lib.F_h_weaving [.ow o, .t (.int mx)] = .ret (.t (.tup [.lst (ws.map .str), .lst evs])) [.ow o', .t (.int mx)] ∧
    (∀ w ∈ ws, w ∈ pool) ∧ 0 < ws.length ∧ ws.length ≤ 4 ∧ (∀ t ∈ evs, IsEv ws.length t) ∧ evs.length ≤ mx ∧ IsBox (n + 300) o' := by
  obtain ⟨ys, o1, q1, hy, hyl, b1⟩ := names_spec h (by omega)
  obtain ⟨r, o2, q2, r0, r1, b2⟩ := A.draw_spec (m := 4) b1 (by omega) (by decide) (by decide)
  have k1 : cutP ys none (some 4) = ys.take 4 := by unfold cutP; simp [HT.sIx, hyl]
  have k2 : cutP ys (some 4) none = ys.drop 4 := by unfold cutP; simp [HT.sIx, hyl]; rw [List.take_of_length_le]; simp [hyl]
  have t1 : (rangeL 0 (1 + r).toNat).length ≤ 4 := by rw [rangeL_len]; omega
  have t1' : 0 < (rangeL 0 (1 + r).toNat).length := by rw [rangeL_len]; omega
  -- the first places
  obtain ⟨fs, e1, c1, l1, p1, o3, he1, b3⟩ := compS (ea := eRes (rCall 2 Lib.F_h_pick [] (aCons (eVar 0) (aCons (eRes (rSl (eVar 2) oNo (oSo (eCon (.int 4))))) aNil)))) (al := alive (.tr .non) (rangeL 0 (1 + r).toNat)) (j := 4) 4
    (fun k e => ∃ o', e = [some (.ow o'), some (.t (.int mx)), some (.t (.lst ys)), none, none] ∧ IsBox (n + 16 + k) o') IsName (fun _ _ _ => rfl) (rangeL 0 (1 + r).toNat) [] 0 _ (by simp; omega) (by omega) ⟨o2, rfl, b2.mono (by omega)⟩ (fun t ht k e hk h => by
      obtain ⟨o', rfl, hb⟩ := h
      obtain ⟨x, o3, q3, hx, b3⟩ := A.pick_spec (xs := ys.take 4) hb (by omega) (by rw [List.length_take, hyl]; decide) (by rw [List.length_take, hyl]; decide)
      refine ⟨x, _, by simp [slA, k1, pick_eq, q3]; rfl, hy x (List.mem_of_mem_take hx), _, rfl, b3.mono (by omega)⟩)
  subst he1
  rw [← l1] at t1 t1' b3
  obtain ⟨ws, rfl, hw⟩ := IsName.lst p1
  rw [List.length_map] at t1 t1' b3
  obtain ⟨m, o4, q4, m0, m1, b4⟩ := A.draw_spec (m := mx + 1) b3 (by omega) (by omega) (by omega)
  have t2 : (rangeL 0 m.toNat).length ≤ 40 := by rw [rangeL_len]; omega
  obtain ⟨evs, e2, c2, l2, p2, o5, he2, b5⟩ := compS (ea := eRes (rCall 3 Lib.F_h_event [] (aCons (eVar 0) (aCons (eRes (rBui lenF (aCons (eVar 3) aNil))) (aCons (eRes (rSl (eVar 2) (oSo (eCon (.int 4))) oNo)) aNil))))) (al := alive (.tr .non) (rangeL 0 m.toNat)) (j := 4) 40
    (fun k e => ∃ o', e = [some (.ow o'), some (.t (.int mx)), some (.t (.lst ys)), some (.t (.lst (ws.map .str))), none] ∧ IsBox (n + 50 + 3 * k) o') (IsEv ws.length) (fun _ _ _ => rfl) (rangeL 0 m.toNat) [] 0 _ (by simp; omega) (by omega) ⟨o4, rfl, b4.mono (by omega)⟩ (fun t ht k e hk h => by
      obtain ⟨o', rfl, hb⟩ := h
      obtain ⟨x, o3, q3, hx, b3⟩ := event_spec (m := ws.length) (ls := ys.drop 4) hb (by omega) (by omega) (by omega) (by rw [List.length_drop, hyl]; decide) (by rw [List.length_drop, hyl]; decide) (fun l hl => hy l (List.mem_of_mem_drop hl))
      refine ⟨x, _, by simp [slA, k2, lenF, q3]; rfl, hx, _, rfl, b3.mono (by omega)⟩)
  subst he2
  refine ⟨ws, evs, o5, ?_, hw, t1', t1, p2, by rw [l2, rangeL_len]; omega, b5.mono (by omega)⟩
  have z1 : (-1000000000 ≤ 1 + r ∧ 1 + r ≤ 1000000000) := by omega
  have z2 : (-1000000000 ≤ m ∧ m ≤ 1000000000) := by omega
  have a1 : alive (.tr .non) (rangeL 0 (1 + r).toNat) = fun _ => true := rfl
  have a2 : alive (.tr .non) (rangeL 0 m.toNat) = fun _ => true := rfl
  simp [Lib.F_h_weaving, fDef, Lib.ev_h_weaving, q1, draw_eq, q2, addA, z1, z2, q4, c1, c2]
def plainK : PV → Bool
  | .dct _ _ => false
  | .ins _ _ => false
  | .scr _ => false
  | .cls _ => false
  | _ => true
theorem dat_plain {n : Nat} {v : PV} (h : dat n v = true) : plainK v = true := by
  cases v with
  | dct _ _ => cases n <;> cases h
  | ins _ _ => cases n <;> cases h
  | scr _ => cases n <;> cases h
  | cls _ => cases n <;> cases h
  | _ => rfl
theorem eq_nil {xs : List PV} (h : datL 63 xs = true) : eqP (.lst xs) (.lst []) = some (.bl xs.isEmpty) := by
  have d : dat 64 (.lst xs) = true := by rw [dat]; exact h
  have e : dat 64 (.lst []) = true := rfl
  cases xs <;> simp [eqP, d, e, peq, peqL]
theorem ne_nil {xs : List PV} (h : datL 63 xs = true) : neP (.lst xs) (.lst []) = some (.bl (!xs.isEmpty)) := by
  have d : dat 64 (.lst xs) = true := by rw [dat]; exact h
  have e : dat 64 (.lst []) = true := rfl
  cases xs <;> simp [neP, d, e, peq, peqL]
theorem fil_all {α : Type} (p : α → Bool) (xs : List α) : (xs.filter fun x => !p x).isEmpty = xs.all p := by
  induction xs with
  | nil => rfl
  | cons x r ih =>
    cases hp : p x <;> simp [hp, List.filter_cons]
    simpa using ih
theorem pickD {n : Int} {o : OS} {xs : List PV} (h : IsBox n o) (hn : n ≤ 2 ^ 39) (h0 : 0 < xs.length) (hm : xs.length < 100) {k : Nat} (hd : ∀ x ∈ xs, dat k x = true) : ∃ x o', A.F_pick [.ow o, .t (.lst xs)] = .ret (.t x) [.ow o', .t (.lst xs)] ∧ dat k x = true ∧ IsBox (n + 1) o' := by
  obtain ⟨x, o', q, hx, hb⟩ := A.pick_spec h (by omega) h0 (by omega)
  exact ⟨x, o', q, hd x hx, hb⟩
theorem shown_num {i : Int} (h0 : 0 ≤ i) (h1 : i < 10 ^ 9) : Sh 9 (toD (.int i)).shown := by
  have e : (toD (.int i)).shown = numS i := rfl
  rw [e]
  refine ⟨numS_len (by decide) h0 h1, fun c hc => ?_⟩
  have := numS_digits h0 c hc
  omega
theorem shw_by {t : PV} {k : Nat} (hk : k ≤ 1000000) (d : dat 60 t = true) (s : (toD t).showable = true) (h : Sh k (toD t).shown) : shw t = true := by
  unfold shw
  simp only [d, s, Bool.true_and, Bool.and_eq_true, decide_eq_true_iff]
  refine ⟨Nat.le_trans h.1 (by unfold LIM; exact hk), ?_⟩
  unfold PyData.strOk
  rw [← Array.all_toList, List.all_eq_true]
  exact fun c hc => decide_eq_true (h.2 c hc)
theorem enum_len : ∀ (xs : List PV) (k : Nat), (enumL k xs).length = xs.length
  | [], _ => rfl
  | x :: xs, k => by simp [enumL, enum_len xs]
theorem enum_at : ∀ {xs : List PV} {k : Nat} {u : PV}, u ∈ enumL k xs → ∃ (j : Int) (t : PV), u = .tup [.int j, t] ∧ t ∈ xs
  | [], k, u, h => by simp [enumL] at h
  | t :: ts, k, u, h => by
    simp only [enumL, List.mem_cons] at h
    rcases h with rfl | h
    · exact ⟨_, t, rfl, List.mem_cons_self⟩
    · obtain ⟨j, t', e, m⟩ := enum_at h
      exact ⟨j, t', e, List.mem_cons_of_mem _ m⟩
/-! ### good ones -/
theorem nm_pool : ∀ w ∈ pool, nmS w = true := by
  intro w hw
  simp only [pool, List.mem_cons, List.not_mem_nil, or_false] at hw
  rcases hw with rfl | rfl | rfl | rfl | rfl | rfl | rfl | rfl | rfl | rfl | rfl | rfl | rfl | rfl | rfl <;> decide +kernel
theorem do_doW : ∀ w ∈ doW, doB w = true := by
  intro w hw
  simp only [doW, List.mem_cons, List.not_mem_nil, or_false] at hw
  rcases hw with rfl | rfl | rfl | rfl | rfl <;> decide +kernel
theorem sa_saW : ∀ w ∈ saW, saB w = true := by
  intro w hw
  simp only [saW, List.mem_cons, List.not_mem_nil, or_false] at hw
  rcases hw with rfl | rfl <;> decide +kernel
theorem ev_good {m : Int} {t : PV} (h : IsEv m t) : evB m t = true := by
  cases h with
  | @say w l s hw h0 h1 hl => simp [evB, sa_saW _ hw, stepB, h0, h1, nmB, nm_pool _ hl]
  | @turn s h0 h1 => simp [evB, natB, h0]
  | @act w s hw h0 h1 => simp [evB, do_doW _ hw, stepB, h0, h1]
theorem bad_none {m : Int} : ∀ {xs : List PV} {k : Nat}, (∀ x ∈ xs, evB m x = true) → badAt m xs k = none
  | [], _, _ => rfl
  | x :: xs, k, h => by rw [badAt, h x List.mem_cons_self, if_pos rfl]; exact bad_none fun y hy => h y (List.mem_cons_of_mem _ hy)
end Pw
end
section
/-! PWx: weavings made of events with any names as letters; turns with any number. -/
namespace Pw
open PySem PySem.Spec PyProof.Rows L2 TreeL
@[local simp] theorem LIM_eqx : LIM = 1000000 := rfl
/-- an event, its letter any name -/
inductive Evt (many : Int) : PV → Prop where
  | say {w l : PySem.Str} {s : Int} (h : w ∈ saW) (h0 : 0 ≤ s) (h1 : s < many) (hl : nmS l = true) : Evt many (.tup [.str w, .int s, .str l])
  | turn {s : Int} (h0 : 0 ≤ s) : Evt many (.tup [.str "turn", .int s])
  | act {w : PySem.Str} {s : Int} (h : w ∈ doW) (h0 : 0 ≤ s) (h1 : s < many) : Evt many (.tup [.str w, .int s])
theorem IsEv.evt {m : Int} {t : PV} (h : IsEv m t) : Evt m t := by
  cases h with
  | say h h0 h1 hl => exact .say h h0 h1 (nm_pool _ hl)
  | turn h0 _ => exact .turn h0
  | act h h0 h1 => exact .act h h0 h1
theorem Evt.good {m : Int} {t : PV} (h : Evt m t) : evB m t = true := by
  cases h with
  | @say w l s hw h0 h1 hl => simp [evB, sa_saW _ hw, stepB, h0, h1, nmB, hl]
  | @turn s h0 => simp [evB, natB, h0]
  | @act w s hw h0 h1 => simp [evB, do_doW _ hw, stepB, h0, h1]
theorem datS (n : Nat) (s : PySem.Str) : dat n (.str s) = true := by cases n <;> rfl
theorem datI (n : Nat) (i : Int) : dat n (.int i) = true := by cases n <;> rfl
theorem Evt.dat {m : Int} {t : PV} (h : Evt m t) (n : Nat) : dat (n + 1) t = true := by
  cases h <;> simp [TreeL.dat, datL, datS, datI]
theorem doW_turn : ∀ w ∈ doW, (w == ("turn" : PySem.Str)) = false := by
  intro w hw
  simp only [doW, List.mem_cons, List.not_mem_nil, or_false] at hw
  rcases hw with rfl | rfl | rfl | rfl | rfl <;> decide +kernel
theorem saW_turn : ∀ w ∈ saW, (w == ("turn" : PySem.Str)) = false := by
  intro w hw
  simp only [saW, List.mem_cons, List.not_mem_nil, or_false] at hw
  rcases hw with rfl | rfl <;> decide +kernel
/-- what its form is -/
theorem Evt.form {m : Int} {t : PV} (h : Evt m t) : ∃ w i r, t = .tup (.str w :: .int i :: r) ∧ 0 ≤ i ∧ r.length ≤ 1 ∧ ((w == ("turn" : PySem.Str)) = false → i < m) ∧ (∀ n, datL n r = true) := by
  cases h with
  | @say w l s hw h0 h1 hl => exact ⟨w, s, [.str l], rfl, h0, by simp, fun _ => h1, fun n => by simp [datL, datS]⟩
  | @turn s h0 => exact ⟨_, s, [], rfl, h0, by simp, fun h => absurd h (by decide), fun n => rfl⟩
  | @act w s hw h0 h1 => exact ⟨w, s, [], rfl, h0, by simp, fun _ => h1, fun n => rfl⟩
/-- letters: names -/
def IsNm (t : PV) : Prop := ∃ w : PySem.Str, nmS w = true ∧ t = .str w
theorem IsName.nm {t : PV} (h : IsName t) : IsNm t := by
  obtain ⟨w, hw, rfl⟩ := h
  exact ⟨w, nm_pool w hw, rfl⟩
theorem event_specN {n m : Int} {o : OS} {ls : List PV} (h : IsBox n o) (hn : n ≤ 2 ^ 39) (h0 : 0 < m) (hm : m ≤ 4) (hl : 0 < ls.length) (hl2 : ls.length < 100) (hs : ∀ l ∈ ls, IsNm l) :
    ∃ t o', Lib.F_h_event [.ow o, .t (.int m), .t (.lst ls)] = .ret (.t t) [.ow o', .t (.int m), .t (.lst ls)] ∧ Evt m t ∧ IsBox (n + 3) o' := by
  obtain ⟨f, o1, q1, f0, f1, b1⟩ := A.draw_spec (m := 8) h (by omega) (by decide) (by decide)
  obtain ⟨s, o2, q2, s0, s1, b2⟩ := A.draw_spec (m := m) b1 (by omega) h0 (by omega)
  by_cases c1 : f < 2
  · obtain ⟨x, o3, q3, hx, b3⟩ := A.pick_spec (xs := ls) b2 (by omega) hl (by omega)
    obtain ⟨l, hl', rfl⟩ := hs x hx
    have hf : f = 0 ∨ f = 1 := by omega
    rcases hf with rfl | rfl
    · refine ⟨_, o3, ?_, .say (w := "there") (by simp [saW]) s0 s1 hl', b3.mono (by omega)⟩
      simp [Lib.F_h_event, fDef, Lib.ev_h_event, draw_eq, pick_eq, q1, q2, q3, ixP, atI, ixN, LIM]
    · refine ⟨_, o3, ?_, .say (w := "back") (by simp [saW]) s0 s1 hl', b3.mono (by omega)⟩
      simp [Lib.F_h_event, fDef, Lib.ev_h_event, draw_eq, pick_eq, q1, q2, q3, ixP, atI, ixN, LIM]
  · by_cases c2 : f = 2
    · obtain ⟨t, o3, q3, t0, t1, b3⟩ := A.draw_spec (m := 12) b2 (by omega) (by decide) (by decide)
      refine ⟨_, o3, ?_, .turn (s := t) t0, b3.mono (by omega)⟩
      subst c2
      simp [Lib.F_h_event, fDef, Lib.ev_h_event, draw_eq, pick_eq, q1, q2, q3, eqP, TreeL.dat, peq]
    · have hf : f = 3 ∨ f = 4 ∨ f = 5 ∨ f = 6 ∨ f = 7 := by omega
      rcases hf with rfl | rfl | rfl | rfl | rfl
      · refine ⟨_, o2, ?_, .act (w := "time") (by simp [doW]) s0 s1, b2.mono (by omega)⟩
        simp [Lib.F_h_event, fDef, Lib.ev_h_event, draw_eq, pick_eq, q1, q2, ixP, atI, ixN, eqP, TreeL.dat, peq, LIM]
      · refine ⟨_, o2, ?_, .act (w := "build") (by simp [doW]) s0 s1, b2.mono (by omega)⟩
        simp [Lib.F_h_event, fDef, Lib.ev_h_event, draw_eq, pick_eq, q1, q2, ixP, atI, ixN, eqP, TreeL.dat, peq, LIM]
      · refine ⟨_, o2, ?_, .act (w := "leave") (by simp [doW]) s0 s1, b2.mono (by omega)⟩
        simp [Lib.F_h_event, fDef, Lib.ev_h_event, draw_eq, pick_eq, q1, q2, ixP, atI, ixN, eqP, TreeL.dat, peq, LIM]
      · refine ⟨_, o2, ?_, .act (w := "work") (by simp [doW]) s0 s1, b2.mono (by omega)⟩
        simp [Lib.F_h_event, fDef, Lib.ev_h_event, draw_eq, pick_eq, q1, q2, ixP, atI, ixN, eqP, TreeL.dat, peq, LIM]
      · refine ⟨_, o2, ?_, .act (w := "wipe") (by simp [doW]) s0 s1, b2.mono (by omega)⟩
        simp [Lib.F_h_event, fDef, Lib.ev_h_event, draw_eq, pick_eq, q1, q2, ixP, atI, ixN, eqP, TreeL.dat, peq, LIM]
/-- a weaving as it lies -/
def wI (ws : List PySem.Str) (evs : List PV) : List (PySem.Str × PV) := [("firsts", .tup (ws.map .str)), ("events", .tup evs)]
def wv (ws : List PySem.Str) (evs : List PV) : PV := .ins 6 (wI ws evs)
structure Gd (ws : List PySem.Str) (evs : List PV) : Prop where
  w : ∀ x ∈ ws, nmS x = true
  w0 : 0 < ws.length
  w4 : ws.length ≤ 4
  e : ∀ t ∈ evs, Evt ws.length t
  el : evs.length ≤ 100
theorem fne : (Str.ofString "events" == Str.ofString "firsts") = false := by decide +kernel
theorem wI_f (ws : List PySem.Str) (evs : List PV) : (wI ws evs).lookup (Str.ofString "firsts") = some (.tup (ws.map .str)) := by simp [wI]
theorem wI_e (ws : List PySem.Str) (evs : List PV) : (wI ws evs).lookup (Str.ofString "events") = some (.tup evs) := by simp [wI, List.lookup, fne]
theorem due_gd {ws : List PySem.Str} {evs : List PV} (g : Gd ws evs) {v w : PV} (sv : seqB v = true) (sw : seqB w = true) (iv : items v = ws.map .str) (iw : items w = evs) : dueV v w = none := by
  have ha : (ws.map PV.str).all nmB = true := by
    rw [List.all_eq_true]
    intro x hx
    obtain ⟨y, hy, rfl⟩ := List.mem_map.mp hx
    exact g.w y hy
  have f : firstsB v = true := by simp only [firstsB, namesB, sv, iv, ha, List.length_map, g.w0, decide_true, Bool.and_self]
  have b : badAt (ws.map PV.str).length evs 0 = none := bad_none fun x hx => by rw [List.length_map]; exact (g.e x hx).good
  simp only [dueV, f, sw, Bool.and_self, if_true, iv, iw, b, Option.map_none]
theorem datV {v : PV} {n : Nat} (h : datL n (items v) = true) (s : seqB v = true) : TreeL.dat (n + 1) v = true := by
  cases v <;> first | (cases s; done) | (rw [TreeL.dat]; exact h)
theorem Gd.datE {ws : List PySem.Str} {evs : List PV} (g : Gd ws evs) (n : Nat) : datL (n + 1) evs = true := by
  rw [datL_all, List.all_eq_true]; exact fun t ht => (g.e t ht).dat n
theorem init_gd {ks : List Nat} {ws : List PySem.Str} {evs : List PV} (g : Gd ws evs) {v w : PV} (sv : seqB v = true) (sw : seqB w = true) (iv : items v = ws.map .str) (iw : items w = evs) :
    Lib.F_Weaving___init__ ks [.ow (.ins 6 []), .t v, .t w] = .ret (.t .non) [.ow (.ins 6 (wI ws evs)), .t v, .t w] := by
  have d1 : TreeL.dat (5 + 1) v = true := datV (by rw [iv]; exact datL_str _ _) sv
  have d2 : TreeL.dat (5 + 2) w = true := datV (by rw [iw]; exact g.datE 5) sw
  have i := init_v (ks := ks) d1 d2 (by rw [iv, List.length_map]; have := g.w4; omega)
  rw [due_gd g sv sw iv iw] at i
  simpa only [wFs, wI, iv, iw] using i
theorem Gd.app {ws : List PySem.Str} {a b : List PV} (g : Gd ws a) (h : Gd ws b) (l : a.length + b.length ≤ 100) : Gd ws (a ++ b) :=
  ⟨g.w, g.w0, g.w4, fun t ht => (List.mem_append.mp ht).elim (g.e t) (h.e t), by rw [List.length_append]; exact l⟩
theorem Gd.sub {ws : List PySem.Str} {a b : List PV} (g : Gd ws a) (h : b.Sublist a) : Gd ws b :=
  ⟨g.w, g.w0, g.w4, fun t ht => g.e t (h.subset ht), Nat.le_trans h.length_le g.el⟩
theorem peqL_str : ∀ a b : List PySem.Str, peqL (a.map PV.str) (b.map PV.str) = decide (a = b)
  | [], [] => rfl
  | [], _ :: _ => rfl
  | _ :: _, [] => rfl
  | x :: a, y :: b => by
    have e : peq (.str x) (.str y) = decide (x = y) := by
      rw [peq_str]
      by_cases h : x = y
      · simp [h]
      · simp [h]
    simp only [List.map_cons, peqL, e, peqL_str a b, List.cons.injEq]
    by_cases h : x = y <;> by_cases h2 : a = b <;> simp [h, h2]
theorem dat_tupS (n : Nat) (ws : List PySem.Str) : TreeL.dat (n + 1) (.tup (ws.map .str)) = true := by rw [TreeL.dat]; exact datL_str _ _
theorem dat_lstS (n : Nat) (ws : List PySem.Str) : TreeL.dat (n + 1) (.lst (ws.map .str)) = true := by rw [TreeL.dat]; exact datL_str _ _
theorem ne_tupS (a b : List PySem.Str) : neP (.tup (a.map .str)) (.tup (b.map .str)) = some (.bl (!decide (a = b))) := by
  have d1 := dat_tupS 63 a
  have d2 := dat_tupS 63 b
  simp [neP, d1, d2, peq, peqL_str]
theorem eq_lstS (a b : List PySem.Str) : eqP (.lst (a.map .str)) (.lst (b.map .str)) = some (.bl (decide (a = b))) := by
  have d1 := dat_lstS 63 a
  have d2 := dat_lstS 63 b
  simp [eqP, d1, d2, peq, peqL_str]
theorem ne_self {t : PV} (h : TreeL.dat 64 t = true) : neP t t = some (.bl false) := by
  simp [neP, h, peq_self h]
theorem eq_self {t : PV} (h : TreeL.dat 64 t = true) : eqP t t = some (.bl true) := by
  simp [eqP, h, peq_self h]
theorem cut_all (xs : List PV) (n : Nat) (h : n = xs.length) (ys : List PV) : cutP (xs ++ ys) none (some (n : Int)) = xs := by
  subst h
  unfold cutP
  have e : HT.sIx (xs ++ ys).length (xs ++ ys).length (some (xs.length : Int)) = xs.length := by
    have h1 : ¬ ((xs.length : Int) < 0) := by omega
    simp only [HT.sIx, if_neg h1, List.length_append]
    omega
  have e0 : HT.sIx (xs ++ ys).length 0 none = 0 := rfl
  rw [e, e0]
  simp
theorem cut_rest (xs : List PV) (n : Nat) (h : n = xs.length) (ys : List PV) : cutP (xs ++ ys) (some (n : Int)) none = ys := by
  subst h
  unfold cutP
  have e : HT.sIx (xs ++ ys).length 0 (some (xs.length : Int)) = xs.length := by
    have h1 : ¬ ((xs.length : Int) < 0) := by omega
    simp only [HT.sIx, if_neg h1, List.length_append]
    omega
  have e0 : HT.sIx (xs ++ ys).length (xs ++ ys).length none = (xs ++ ys).length := rfl
  rw [e, e0]
  simp
theorem cut_one {xs : List PV} {k : Nat} {x : PV} (h : xs[k]? = some x) : cutP xs (some (k : Int)) (some ((k : Int) + 1)) = [x] := by
  have lt : k < xs.length := (List.getElem?_eq_some_iff.mp h).1
  unfold cutP
  have h1 : ¬ ((k : Int) < 0) := by omega
  have h2 : ¬ ((k : Int) + 1 < 0) := by omega
  have e1 : HT.sIx xs.length 0 (some (k : Int)) = k := by simp only [HT.sIx, if_neg h1]; omega
  have e2 : HT.sIx xs.length xs.length (some ((k : Int) + 1)) = k + 1 := by simp only [HT.sIx, if_neg h2]; omega
  rw [e1, e2]
  have e3 : k + 1 - k = 1 := by omega
  rw [e3, List.drop_eq_getElem_cons lt]
  have := (List.getElem?_eq_some_iff.mp h).2
  simp [this]
end Pw
end
section
/-! law k11: the plain law. -/
namespace Lk11
open PySem PySem.Spec PyProof.Rows L2 TreeL Pw
@[local simp] theorem LIM_eq : LIM = 1000000 := rfl
def keepE (s : Int) : PV → Bool
  | .tup (.str w :: .int i :: _) => w == ("turn" : PySem.Str) || i == s
  | _ => false
def toZ : PV → PV
  | .tup (.str w :: .int i :: r) => if w == ("turn" : PySem.Str) then .tup (.str w :: .int i :: r) else .tup (.str w :: .int 0 :: r)
  | t => t
def ownE (s : Int) (evs : List PV) : List PV := (evs.filter (keepE s)).map toZ
theorem toZ_evt {m : Int} {t : PV} (h : Evt m t) : Evt 1 (toZ t) := by
  cases h with
  | @say w l s hw h0 h1 hl =>
    have e : toZ (.tup [.str w, .int s, .str l]) = .tup [.str w, .int 0, .str l] := by simp [toZ, saW_turn w hw]
    rw [e]; exact .say hw (by decide) (by decide) hl
  | @turn s h0 =>
    have e : toZ (.tup [.str "turn", .int s]) = .tup [.str "turn", .int s] := by simp [toZ]
    rw [e]; exact .turn h0
  | @act w s hw h0 h1 =>
    have e : toZ (.tup [.str w, .int s]) = .tup [.str w, .int 0] := by simp [toZ, doW_turn w hw]
    rw [e]; exact .act hw (by decide) (by decide)
theorem own_gd {ws : List PySem.Str} {evs : List PV} (g : Gd ws evs) {x : PySem.Str} (hx : x ∈ ws) (s : Int) : Gd [x] (ownE s evs) :=
  ⟨fun y hy => by rw [List.mem_singleton.mp hy]; exact g.w x hx, by simp, by simp, fun t ht => by
    obtain ⟨u, hu, rfl⟩ := List.mem_map.mp ht
    exact toZ_evt (g.e u (List.mem_filter.mp hu).1), by
    have := g.el
    have l := List.length_filter_le (keepE s) evs
    unfold ownE
    rw [List.length_map]; omega⟩
theorem cut2 (a b : PV) (r : List PV) : cutP (a :: b :: r) (some 2) none = r := cut_rest [a, b] 2 rfl r
theorem seq_go {x y : EvS} {e e' : En} (h : x e = .nx e') : sSeq x y e = y e' := by simp [h]
theorem alone_loop {self : PV} {s : Int} : ∀ (evs acc : List PV) (x : Option TreeL.Arg), (∀ t ∈ evs, ∃ m, Evt m t) → acc.length + evs.length ≤ 1000 → ∃ x', loopF (gNm 3) (Lib.eb_Weaving_alone_1 ks) (fun _ => true) evs [some (.t self), some (.t (.int s)), some (.ow (.lst acc)), x] =
    .nx [some (.t self), some (.t (.int s)), some (.ow (.lst (acc ++ ownE s evs))), x']
  | [], acc, x, _, _ => ⟨x, by simp [loopF, ownE]⟩
  | t :: evs, acc, x, h, hl => by
    rw [List.length_cons] at hl
    obtain ⟨m, ht⟩ := h t List.mem_cons_self
    obtain ⟨w, i, r, rfl, i0, lr, _, _⟩ := ht.form
    have hlt : acc.length < 1000000 := by omega
    cases hw : (w == ("turn" : PySem.Str)) with
    | true =>
      obtain ⟨x', q⟩ := alone_loop evs (acc ++ [.tup (.str w :: .int i :: r)]) (some (.t (.tup (.str w :: .int i :: r)))) (fun t ht => h t (List.mem_cons_of_mem _ ht)) (by rw [List.length_append, List.length_singleton]; omega)
      refine ⟨x', ?_⟩
      have e : acc ++ ownE s (.tup (.str w :: .int i :: r) :: evs) = acc ++ [.tup (.str w :: .int i :: r)] ++ ownE s evs := by simp [ownE, keepE, toZ, hw]
      rw [e, ← q]
      simp [loopF, Lib.eb_Weaving_alone_1, ix0, eq_s, hw, eMut, isTyO, appendO, hlt]
    | false =>
      cases hi : (i == s) with
      | true =>
        obtain ⟨x', q⟩ := alone_loop evs (acc ++ [.tup (.str w :: .int 0 :: r)]) (some (.t (.tup (.str w :: .int i :: r)))) (fun t ht => h t (List.mem_cons_of_mem _ ht)) (by rw [List.length_append, List.length_singleton]; omega)
        refine ⟨x', ?_⟩
        have e : acc ++ ownE s (.tup (.str w :: .int i :: r) :: evs) = acc ++ [.tup (.str w :: .int 0 :: r)] ++ ownE s evs := by simp [ownE, keepE, toZ, hw, hi]
        rw [e, ← q]
        have l9 : r.length ≤ 999998 := by omega
        simp [loopF, Lib.eb_Weaving_alone_1, ix0, ix1, eq_s, eq_i, hw, hi, eMut, isTyO, appendO, hlt, slA, cut2, trees_map0, l9]
      | false =>
        obtain ⟨x', q⟩ := alone_loop evs acc (some (.t (.tup (.str w :: .int i :: r)))) (fun t ht => h t (List.mem_cons_of_mem _ ht)) (by omega)
        refine ⟨x', ?_⟩
        have e : acc ++ ownE s (.tup (.str w :: .int i :: r) :: evs) = acc ++ ownE s evs := by simp [ownE, keepE, hw, hi]
        rw [e, ← q]
        simp [loopF, Lib.eb_Weaving_alone_1, ix0, ix1, eq_s, eq_i, hw, hi]
theorem lookM (ws : List PySem.Str) (evs : List PV) (m : PySem.Str) (h : (m == Str.ofString "firsts") = false) (h' : (m == Str.ofString "events") = false) : (wI ws evs).lookup m = none := by
  simp [wI, List.lookup, h, h']
theorem alone_ok {ws : List PySem.Str} {evs : List PV} (g : Gd ws evs) {k : Nat} {x : PySem.Str} (hx : ws[k]? = some x) : Lib.F_Weaving_alone ks [.t (wv ws evs), .t (.int k)] = .ret (.t (wv [x] (ownE k evs))) [.t (wv ws evs), .t (.int k)] := by
  have ff := wI_f ws evs
  have fe := wI_e ws evs
  obtain ⟨x', q⟩ := alone_loop (self := wv ws evs) (s := k) evs [] none (fun t ht => ⟨_, g.e t ht⟩) (by have := g.el; simp; omega)
  have a1 : alive (.tr .non) evs = fun _ => true := rfl
  have gx := own_gd g (List.mem_of_getElem? hx) k
  have c1 : cutP (ws.map PV.str) (some (k : Int)) (some ((k : Int) + 1)) = [.str x] := cut_one (by rw [List.getElem?_map, hx]; rfl)
  have i := init_gd (ks := ks) gx (v := .tup [.str x]) (w := .lst (ownE k evs)) rfl rfl rfl rfl
  unfold wv at q ⊢
  simp only [List.nil_append] at q
  simp [Lib.F_Weaving_alone, fDef, Lib.ev_Weaving_alone, ff, fe, sFor, a1, q, slA, addA, c1, rMake, frz, i]
theorem add_ok {ws ws2 : List PySem.Str} {evs evs2 : List PV} (g : Gd ws evs) (h : Gd ws2 evs2) (l : evs.length + evs2.length ≤ 100) : Lib.F_Weaving___add__ ks [.t (wv ws evs), .t (wv ws2 evs2)] =
    (if ws = ws2 then .ret (.t (wv ws (evs ++ evs2))) [.t (wv ws evs), .t (wv ws2 evs2)] else .exc ⟨28, []⟩ [.t (wv ws evs), .t (wv ws2 evs2)]) := by
  have ff := wI_f ws evs
  have fe := wI_e ws evs
  have ff2 := wI_f ws2 evs2
  have fe2 := wI_e ws2 evs2
  have n := ne_tupS ws ws2
  unfold wv
  by_cases e : ws = ws2
  · subst e
    have l2 : evs.length + evs2.length ≤ 1000000 := by omega
    have i := init_gd (ks := ks) (g.app h l) (v := .tup (ws.map .str)) (w := .tup (evs ++ evs2)) rfl rfl rfl rfl
    simp at n
    simp [Lib.F_Weaving___add__, fDef, Lib.ev_Weaving___add__, ff, fe, fe2, ff2, n, addA, l2, rMake, i]
  · simp [e] at n
    simp [Lib.F_Weaving___add__, fDef, Lib.ev_Weaving___add__, ff, fe, fe2, ff2, n, e]
def dueA (ws ws2 : List PySem.Str) (a b : List PV) : PV := if ws = ws2 then .tup (a ++ b) else .str "mismatch"
theorem tried_ok {ws ws2 : List PySem.Str} {evs evs2 : List PV} (g : Gd ws evs) (h : Gd ws2 evs2) (l : evs.length + evs2.length ≤ 100) : Lib.F_h_tried ks [.t (wv ws evs), .t (wv ws2 evs2)] =
    .ret (.t (dueA ws ws2 evs evs2)) [.t (wv ws evs), .t (wv ws2 evs2)] := by
  have a := add_ok g h l
  have fe := wI_e ws (evs ++ evs2)
  by_cases e : ws = ws2
  · rw [if_pos e] at a
    subst e
    unfold wv at a ⊢
    simp [Lib.F_h_tried, fDef, Lib.ev_h_tried, rDun2, isIns, callOf, gId, a, fe, dueA]
  · rw [if_neg e] at a
    unfold wv at a ⊢
    have o1 : okS [0, 1] 3 [some (.t (PV.ins 6 (wI ws evs))), some (.t (PV.ins 6 (wI ws2 evs2))), some (.t (.str "other")), none] = true := rfl
    simp [Lib.F_h_tried, fDef, Lib.ev_h_tried, rDun2, isIns, callOf, gId, a, dueA, e, o1]
theorem eq_ok {ws : List PySem.Str} {evs : List PV} (g : Gd ws evs) : Lib.F_Weaving___eq__ ks [.t (wv ws evs), .t (wv ws evs)] = .ret (.t (.bl true)) [.t (wv ws evs), .t (wv ws evs)] := by
  have ff := wI_f ws evs
  have fe := wI_e ws evs
  have d : TreeL.dat 64 (.tup [.tup (ws.map .str), .tup evs]) = true := by
    have d1 := dat_tupS 62 ws
    have d2 : TreeL.dat 63 (.tup evs) = true := by rw [TreeL.dat]; exact g.datE 61
    simp [TreeL.dat, datL] at d1 d2 ⊢
    exact ⟨d1, d2⟩
  have p := Pw.eq_self d
  unfold wv
  simp [Lib.F_Weaving___eq__, fDef, Lib.ev_Weaving___eq__, ff, fe, p]
theorem slice_ok {ws : List PySem.Str} {evs : List PV} (g : Gd ws evs) {lo hi : Option Int} (h : Gd ws (cutP evs lo hi)) : Lib.F_Weaving___getitem___b ks [.t (wv ws evs), .t (.slc lo hi)] = .ret (.t (wv ws (cutP evs lo hi))) [.t (wv ws evs), .t (.slc lo hi)] := by
  have ff := wI_f ws evs
  have fe := wI_e ws evs
  have i := init_gd (ks := ks) h (v := .tup (ws.map .str)) (w := .tup (cutP evs lo hi)) rfl rfl rfl rfl
  unfold wv
  simp [Lib.F_Weaving___getitem___b, fDef, Lib.ev_Weaving___getitem___b, ff, fe, slA, rMake, i]
/-! ### the law -/
theorem own_comp {a : Option TreeL.Arg} {ns : List Int} {o : OS} {x2 x5 x6 x8 x9 x10 x12 x14 x15 : Option TreeL.Arg} {ws evs : List PV} {k : Int} (hl : evs.length ≤ 100) (he : ∀ t ∈ evs, ∃ m, Evt m t) :
    compL (gNm 13) (tOrr (tBl (eBin eqP (eBin ixP (eVar 13) (eCon (.int 0))) (eCon (.str "turn")))) (tBl (eBin eqP (eBin ixP (eVar 13) (eCon (.int 1))) (eVar 11)))) (eVar 13) [13] (alive (.tr .non) evs) evs [] [a, some (.ow o), x2, some (.t (.lst ws)), some (.t (.lst evs)), x5, x6, none, x8, x9, x10, some (.t (.int k)), x12, none, x14, x15] =
      .ok (evs.filter (keepE k)) [a, some (.ow o), x2, some (.t (.lst ws)), some (.t (.lst evs)), x5, x6, none, x8, x9, x10, some (.t (.int k)), x12, none, x14, x15] := by
  have c := comp1 (et := tOrr (tBl (eBin eqP (eBin ixP (eVar 13) (eCon (.int 0))) (eCon (.str "turn")))) (tBl (eBin eqP (eBin ixP (eVar 13) (eCon (.int 1))) (eVar 11)))) (ea := eVar 13) (al := alive (.tr .non) evs)
    (env := [a, some (.ow o), x2, some (.t (.lst ws)), some (.t (.lst evs)), x5, x6, none, x8, x9, x10, some (.t (.int k)), x12, none, x14, x15]) (j := 13) (keepE k) id rfl rfl evs (by simp; omega) (fun t ht => by
      obtain ⟨m, h⟩ := he t ht
      obtain ⟨w, i, r, rfl, i0, lr, _, _⟩ := h.form
      cases hw : (w == ("turn" : PySem.Str)) with
      | true => simp [ix0, eq_s, hw, keepE]
      | false => simp [ix0, ix1, eq_s, eq_i, hw, keepE])
  rw [List.map_id] at c
  exact c
theorem zero_comp {a : Option TreeL.Arg} {o : OS} {x2 x5 x6 x8 x9 x10 x14 x15 : Option TreeL.Arg} {ws evs es : List PV} {k : Int} (hl : es.length ≤ 100) (he : ∀ t ∈ es, ∃ m, Evt m t) :
    compL (gNm 13) tYesT (eIf (tBl (eBin eqP (eBin ixP (eVar 13) (eCon (.int 0))) (eCon (.str "turn")))) (eVar 13) (eRes (rBin addA (eTup (aCons (eBin ixP (eVar 13) (eCon (.int 0))) (aCons (eCon (.int 0)) aNil))) (eRes (rSl (eVar 13) (oSo (eCon (.int 2))) oNo))))) [13] (alive (.tr .non) es) es [] [a, some (.ow o), x2, some (.t (.lst ws)), some (.t (.lst evs)), x5, x6, none, x8, x9, x10, some (.t (.int k)), some (.t (.lst es)), none, x14, x15] =
      .ok (es.map toZ) [a, some (.ow o), x2, some (.t (.lst ws)), some (.t (.lst evs)), x5, x6, none, x8, x9, x10, some (.t (.int k)), some (.t (.lst es)), none, x14, x15] :=
  compM toZ rfl rfl es (by simp; omega) fun t ht => by
    obtain ⟨m, h⟩ := he t ht
    obtain ⟨w, i, r, rfl, i0, lr, _, _⟩ := h.form
    have l2 : 1 + 1 + r.length ≤ 1000000 := by omega
    have l3 : 2 + r.length ≤ 1000000 := by omega
    cases hw : (w == ("turn" : PySem.Str)) with
    | true => simp [ix0, eq_s, hw, toZ]
    | false => simp [ix0, ix1, eq_s, hw, toZ, slA, cut2, addA, l2, l3]
theorem turn_1 {a : Option TreeL.Arg} {o : OS} {x2 x5 x6 x9 x10 x12 x14 x15 : Option TreeL.Arg} {ws : List PySem.Str} {evs : List PV} (g : Gd ws evs) {k : Nat} (hk : k < ws.length) :
    ∃ y12 y14, eb_law_5 [a, some (.ow o), x2, some (.t (.lst (ws.map .str))), some (.t (.lst evs)), x5, x6, none, some (.t (wv ws evs)), x9, x10, some (.t (.int k)), x12, none, x14, x15] =
      .nx [a, some (.ow o), x2, some (.t (.lst (ws.map .str))), some (.t (.lst evs)), x5, x6, none, some (.t (wv ws evs)), x9, x10, some (.t (.int k)), y12, none, y14, x15] := by
  have hx : ws[k]? = some ws[k] := List.getElem?_eq_getElem hk
  have c1 := own_comp (a := a) (ns := []) (o := o) (x2 := x2) (x5 := x5) (x6 := x6) (x8 := some (.t (wv ws evs))) (x9 := x9) (x10 := x10) (x12 := x12) (x14 := x14) (x15 := x15) (ws := ws.map .str) (evs := evs) (k := k) g.el (fun t ht => ⟨_, g.e t ht⟩)
  have lf := List.length_filter_le (keepE k) evs
  have c2 := zero_comp (a := a) (o := o) (x2 := x2) (x5 := x5) (x6 := x6) (x8 := some (.t (wv ws evs))) (x9 := x9) (x10 := x10) (x14 := x14) (x15 := x15) (ws := ws.map .str) (evs := evs) (es := evs.filter (keepE k)) (k := k) (by have := g.el; omega) (fun t ht => ⟨_, g.e t (List.mem_filter.mp ht).1⟩)
  have al := alone_ok g hx
  have go := own_gd g (List.mem_of_getElem? hx) k
  have eo := eq_ok go
  have ff := wI_f [ws[k]] (ownE k evs)
  have fe := wI_e [ws[k]] (ownE k evs)
  have n1 : neP (.tup [.str ws[k]]) (.tup [.str ws[k]]) = some (.bl false) := ne_self (dat_tupS 63 [ws[k]])
  have n2 : neP (.tup (ownE k evs)) (.tup (ownE k evs)) = some (.bl false) := ne_self (by rw [TreeL.dat]; exact go.datE 62)
  have ix : ixP (.lst (ws.map .str)) (.int (k : Int)) = some (.str ws[k]) := by
    simp only [ixP]
    exact atI_nat (by rw [List.getElem?_map, hx]; rfl)
  have lm := lookM ws evs "alone" (by decide +kernel) (by decide +kernel)
  have oe : List.map toZ (evs.filter (keepE k)) = ownE k evs := rfl
  rw [oe] at c2
  unfold wv at c1 c2 al eo ⊢
  refine ⟨some (.t (.lst (ownE k evs))), some (.t (.ins 6 (wI [ws[k]] (ownE k evs)))), ?_⟩
  simp [eb_law_5, eb_law_1, eb_law_2, eb_law_3, eb_law_4, c1, c2, rMeth, lm, al, ff, fe, ix, n1, n2, tupleF, rDun2, isIns, callOf, gNot, eo]
theorem turn_2 {a : Option TreeL.Arg} {o : OS} {x2 x5 x6 x9 x10 x11 x12 x14 x15 : Option TreeL.Arg} {ws : List PySem.Str} {evs : List PV} (g : Gd ws evs) :
    ∃ y11 y12 y14, eb_law_16 [a, some (.ow o), x2, some (.t (.lst (ws.map .str))), some (.t (.lst evs)), x5, x6, none, some (.t (wv ws evs)), x9, x10, x11, x12, none, x14, x15] =
      .nx [a, some (.ow o), x2, some (.t (.lst (ws.map .str))), some (.t (.lst evs)), x5, x6, none, some (.t (wv ws evs)), x9, x10, y11, y12, none, y14, x15] := by
  have w4 := g.w4
  have z : iRngA (aCons (eRes (rBui lenF (aCons (eVar 3) aNil))) aNil) [a, some (.ow o), x2, some (.t (.lst (ws.map .str))), some (.t (.lst evs)), x5, x6, none, some (.t (wv ws evs)), x9, x10, x11, x12, none, x14, x15] =
      .ok ⟨rangeL 0 ws.length, .tr .non⟩ [a, some (.ow o), x2, some (.t (.lst (ws.map .str))), some (.t (.lst evs)), x5, x6, none, some (.t (wv ws evs)), x9, x10, x11, x12, none, x14, x15] := by
    have l1 : -1000000000 ≤ (ws.length : Int) ∧ (ws.length : Int) ≤ 1000000000 := by omega
    simp [lenF, l1]
  have lp := sat_nx (s := eb_law_16 [a, some (.ow o), x2, some (.t (.lst (ws.map .str))), some (.t (.lst evs)), x5, x6, none, some (.t (wv ws evs)), x9, x10, x11, x12, none, x14, x15])
    (P := fun e => ∃ y11 y12 y14, e = [a, some (.ow o), x2, some (.t (.lst (ws.map .str))), some (.t (.lst evs)), x5, x6, none, some (.t (wv ws evs)), x9, x10, y11, y12, none, y14, x15]) (by
    simp only [eb_law_16, sFor, z, RE.so]
    refine loopF_sat (fun ts e => (∀ t ∈ ts, t ∈ rangeL 0 ws.length) ∧ ∃ y11 y12 y14, e = [a, some (.ow o), x2, some (.t (.lst (ws.map .str))), some (.t (.lst evs)), x5, x6, none, some (.t (wv ws evs)), x9, x10, y11, y12, none, y14, x15]) (fun _ _ _ => rfl) (fun _ h => h.2) ?_ _ _ ⟨fun _ h => h, x11, x12, x14, rfl⟩
    rintro t ts env ⟨hm, y11, y12, y14, rfl⟩
    refine ⟨_, rfl, ?_⟩
    have ht := hm t List.mem_cons_self
    unfold rangeL at ht
    obtain ⟨k, hk, rfl⟩ := List.mem_map.mp ht
    rw [List.mem_range] at hk
    obtain ⟨z12, z14, q⟩ := turn_1 (a := a) (o := o) (x2 := x2) (x5 := x5) (x6 := x6) (x9 := x9) (x10 := x10) (x12 := y12) (x14 := y14) (x15 := x15) g hk
    have e0 : (0 : Int) + (k : Int) = (k : Int) := Int.zero_add _
    simp only [List.set_cons_succ, List.set_cons_zero, e0, q, SO.Sat]
    exact ⟨fun u hu => hm u (List.mem_cons_of_mem _ hu), _, _, _, rfl⟩)
  obtain ⟨e, q, y11, y12, y14, rfl⟩ := lp
  exact ⟨y11, y12, y14, q⟩
theorem ab_nm : ∀ l ∈ [PV.str "a", .str "b"], IsNm l := by
  intro l hl
  simp only [List.mem_cons, List.not_mem_nil, or_false] at hl
  rcases hl with rfl | rfl
  · exact ⟨"a", by decide +kernel, rfl⟩
  · exact ⟨"b", by decide +kernel, rfl⟩
/-- the second weaving -/
theorem second {n : Int} {o : OS} {a x2 x8 x9 x10 x11 x12 x14 x15 : Option TreeL.Arg} {ws ws2 : List PySem.Str} {evs evs2 : List PV} (hb : IsBox n o) (hn : n ≤ 2 ^ 37) (g : Gd ws evs) (h : Gd ws2 evs2) (l2 : evs2.length ≤ 20) :
    ∃ ws3 evs3 o', eb_law_12 [a, some (.ow o), x2, some (.t (.lst (ws.map .str))), some (.t (.lst evs)), some (.t (.lst (ws2.map .str))), some (.t (.lst evs2)), none, x8, x9, x10, x11, x12, none, x14, x15] =
      .nx [a, some (.ow o'), x2, some (.t (.lst (ws.map .str))), some (.t (.lst evs)), some (.t (.lst (ws3.map .str))), some (.t (.lst evs3)), none, x8, x9, x10, x11, x12, none, x14, x15] ∧ Gd ws3 evs3 ∧ evs3.length ≤ 20 ∧ IsBox (n + 100) o' := by
  obtain ⟨r, o1, q1, r0, r1, b1⟩ := A.draw_spec (m := 2) hb (by omega) (by decide) (by decide)
  by_cases hr : r = 0
  · obtain ⟨m, o2, q2, m0, m1, b2⟩ := A.draw_spec (m := 9) b1 (by omega) (by decide) (by decide)
    have t1 : (rangeL 0 m.toNat).length ≤ 8 := by rw [rangeL_len]; omega
    have w0 := g.w0
    have w4 := g.w4
    obtain ⟨es, e1, c1, l1, p1, o3, he1, b3⟩ := compS (ea := eRes (rCall 3 Lib.F_h_event [] (aCons (eVar 1) (aCons (eRes (rBui lenF (aCons (eVar 3) aNil))) (aCons (eLst (aCons (eCon (.str "a")) (aCons (eCon (.str "b")) aNil))) aNil))))) (al := alive (.tr .non) (rangeL 0 m.toNat)) (j := 7) 8
      (fun k e => ∃ o', e = [a, some (.ow o'), x2, some (.t (.lst (ws.map .str))), some (.t (.lst evs)), some (.t (.lst (ws.map .str))), some (.t (.lst evs2)), none, x8, x9, x10, x11, x12, none, x14, x15] ∧ IsBox (n + 2 + 3 * k) o') (Evt ws.length) (fun _ _ _ => rfl) (rangeL 0 m.toNat) [] 0 _ (by simp; omega) (by omega) ⟨o2, rfl, b2.mono (by omega)⟩ (fun t ht k e hk h => by
        obtain ⟨o', rfl, hb⟩ := h
        obtain ⟨x, o3, q3, hx, b3⟩ := event_specN (m := ws.length) (ls := [.str "a", .str "b"]) hb (by omega) (by omega) (by omega) (by decide) (by decide) ab_nm
        refine ⟨x, _, by simp [lenF, q3]; rfl, hx, _, rfl, b3.mono (by omega)⟩)
    subst he1
    have z2 : (-1000000000 ≤ m ∧ m ≤ 1000000000) := by omega
    have a2 : alive (.tr .non) (rangeL 0 m.toNat) = fun _ => true := rfl
    refine ⟨ws, es, o3, ?_, ⟨g.w, g.w0, g.w4, p1, by omega⟩, by omega, b3.mono (by omega)⟩
    simp [eb_law_12, draw_eq, q1, hr, eqP, dat, peq, listF, q2, z2, c1]
  · refine ⟨ws2, evs2, o1, ?_, h, l2, b1.mono (by omega)⟩
    have e1 : (r == 0) = false := by simpa using hr
    simp [eb_law_12, draw_eq, q1, eq_i, e1]
theorem law_turn {n : Int} {o : OS} {a x2 x3 x4 x5 x6 x8 x9 x10 x11 x12 x14 x15 : Option TreeL.Arg} (hb : IsBox n o) (hn : n ≤ 2 ^ 35) :
    ∃ o' y3 y4 y5 y6 y8 y9 y10 y11 y12 y14 y15, eb_law_18 [a, some (.ow o), x2, x3, x4, x5, x6, none, x8, x9, x10, x11, x12, none, x14, x15] =
      .nx [a, some (.ow o'), x2, y3, y4, y5, y6, none, y8, y9, y10, y11, y12, none, y14, y15] ∧ IsBox (n + 1000) o' := by
  obtain ⟨ws, evs, o1, q1, w1, w2, w3, w4, w5, b1⟩ := weaving_spec (mx := 20) (by decide) (by decide) hb (by omega)
  obtain ⟨ws2, evs2, o2, q2, u1, u2, u3, u4, u5, b2⟩ := weaving_spec (mx := 20) (by decide) (by decide) b1 (by omega)
  have g : Gd ws evs := ⟨fun x hx => nm_pool x (w1 x hx), w2, w3, fun t ht => (w4 t ht).evt, by omega⟩
  have h : Gd ws2 evs2 := ⟨fun x hx => nm_pool x (u1 x hx), u2, u3, fun t ht => (u4 t ht).evt, by omega⟩
  have s1 : eb_law_10 [a, some (.ow o), x2, x3, x4, x5, x6, none, x8, x9, x10, x11, x12, none, x14, x15] = .nx [a, some (.ow o1), x2, some (.t (.lst (ws.map .str))), some (.t (.lst evs)), x5, x6, none, x8, x9, x10, x11, x12, none, x14, x15] := by
    simp [eb_law_10, q1]
  have s2 : eb_law_11 [a, some (.ow o1), x2, some (.t (.lst (ws.map .str))), some (.t (.lst evs)), x5, x6, none, x8, x9, x10, x11, x12, none, x14, x15] = .nx [a, some (.ow o2), x2, some (.t (.lst (ws.map .str))), some (.t (.lst evs)), some (.t (.lst (ws2.map .str))), some (.t (.lst evs2)), none, x8, x9, x10, x11, x12, none, x14, x15] := by
    simp [eb_law_11, q2]
  obtain ⟨ws3, evs3, o3, s3, h3, l3, b3⟩ := second (a := a) (x2 := x2) (x8 := x8) (x9 := x9) (x10 := x10) (x11 := x11) (x12 := x12) (x14 := x14) (x15 := x15) b2 (by omega) g h (by omega)
  clear h u1 u2 u3 u4 u5 q2
  have ln : evs.length + evs3.length ≤ 40 := by omega
  have i1 := init_gd (ks := ks) g (v := .lst (ws.map .str)) (w := .lst evs) rfl rfl rfl rfl
  have i2 := init_gd (ks := ks) h3 (v := .lst (ws3.map .str)) (w := .lst evs3) rfl rfl rfl rfl
  have s4 : eb_law_13 [a, some (.ow o3), x2, some (.t (.lst (ws.map .str))), some (.t (.lst evs)), some (.t (.lst (ws3.map .str))), some (.t (.lst evs3)), none, x8, x9, x10, x11, x12, none, x14, x15] = .nx [a, some (.ow o3), x2, some (.t (.lst (ws.map .str))), some (.t (.lst evs)), some (.t (.lst (ws3.map .str))), some (.t (.lst evs3)), none, some (.t (wv ws evs)), some (.t (wv ws3 evs3)), x10, x11, x12, none, x14, x15] := by
    simp [eb_law_13, rMake, i1, i2, wv, sPar]
  have ew := eq_lstS ws ws3
  have la : evs.length + evs3.length ≤ 1000000 := by omega
  have s5 : eb_law_14 [a, some (.ow o3), x2, some (.t (.lst (ws.map .str))), some (.t (.lst evs)), some (.t (.lst (ws3.map .str))), some (.t (.lst evs3)), none, some (.t (wv ws evs)), some (.t (wv ws3 evs3)), x10, x11, x12, none, x14, x15] = .nx [a, some (.ow o3), x2, some (.t (.lst (ws.map .str))), some (.t (.lst evs)), some (.t (.lst (ws3.map .str))), some (.t (.lst evs3)), none, some (.t (wv ws evs)), some (.t (wv ws3 evs3)), some (.t (dueA ws ws3 evs evs3)), x11, x12, none, x14, x15] := by
    by_cases e : ws = ws3
    · simp [e] at ew
      simp [eb_law_14, ew, addA, la, tupleF, dueA, e]
    · simp [e] at ew
      simp [eb_law_14, ew, dueA, e]
  have t1 := tried_ok g h3 (by omega)
  have fe := wI_e ws evs
  have fe3 := wI_e ws3 evs3
  have ff := wI_f ws evs
  have de : TreeL.dat 64 (.tup evs) = true := by rw [TreeL.dat]; exact g.datE 62
  have de3 : TreeL.dat 64 (.tup evs3) = true := by rw [TreeL.dat]; exact h3.datE 62
  have n1 := ne_self de
  have n2 := ne_self de3
  have dd : TreeL.dat 64 (dueA ws ws3 evs evs3) = true := by
    unfold dueA
    split
    · rename_i e
      subst e
      rw [TreeL.dat]; exact (g.app h3 (by omega)).datE 62
    · rfl
  have n3 := ne_self dd
  have s6 : eb_law_15 [a, some (.ow o3), x2, some (.t (.lst (ws.map .str))), some (.t (.lst evs)), some (.t (.lst (ws3.map .str))), some (.t (.lst evs3)), none, some (.t (wv ws evs)), some (.t (wv ws3 evs3)), some (.t (dueA ws ws3 evs evs3)), x11, x12, none, x14, x15] = .nx [a, some (.ow o3), x2, some (.t (.lst (ws.map .str))), some (.t (.lst evs)), some (.t (.lst (ws3.map .str))), some (.t (.lst evs3)), none, some (.t (wv ws evs)), some (.t (wv ws3 evs3)), some (.t (dueA ws ws3 evs evs3)), x11, x12, none, x14, x15] := by
    unfold wv at t1 ⊢
    simp [eb_law_15, t1, n1, n2, n3, fe, fe3, tupleF]
  obtain ⟨y11, y12, y14, s7⟩ := turn_2 (a := a) (o := o3) (x2 := x2) (x5 := some (.t (.lst (ws3.map .str)))) (x6 := some (.t (.lst evs3))) (x9 := some (.t (wv ws3 evs3))) (x10 := some (.t (dueA ws ws3 evs evs3))) (x11 := x11) (x12 := x12) (x14 := x14) (x15 := x15) g
  have s8 : ∃ y15, eb_law_17 [a, some (.ow o3), x2, some (.t (.lst (ws.map .str))), some (.t (.lst evs)), some (.t (.lst (ws3.map .str))), some (.t (.lst evs3)), none, some (.t (wv ws evs)), some (.t (wv ws3 evs3)), some (.t (dueA ws ws3 evs evs3)), y11, y12, none, y14, x15] = .nx [a, some (.ow o3), x2, some (.t (.lst (ws.map .str))), some (.t (.lst evs)), some (.t (.lst (ws3.map .str))), some (.t (.lst evs3)), none, some (.t (wv ws evs)), some (.t (wv ws3 evs3)), some (.t (dueA ws ws3 evs evs3)), y11, y12, none, y14, y15] := by
    by_cases e : ws = ws3
    · subst e
      simp at ew
      have gs := g.app h3 (by omega)
      have ad := add_ok g h3 (by omega)
      rw [if_pos rfl] at ad
      have g0 : Gd ws [] := ⟨g.w, g.w0, g.w4, by simp, by simp⟩
      have i0 := init_gd (ks := ks) g0 (v := .lst (ws.map .str)) (w := .tup []) rfl rfl rfl rfl
      have ad0 := add_ok g g0 (by simp; omega)
      rw [if_pos rfl, List.append_nil] at ad0
      have fea := wI_e ws (evs ++ evs3)
      have ffa := wI_f ws (evs ++ evs3)
      have eqp := eq_ok g
      have eqq := eq_ok h3
      have k1 := cut_all evs evs.length rfl evs3
      have k2 := cut_rest evs evs.length rfl evs3
      have sl1 := slice_ok gs (lo := none) (hi := some (evs.length : Int)) (by rw [k1]; exact g)
      have sl2 := slice_ok gs (lo := some (evs.length : Int)) (hi := none) (by rw [k2]; exact h3)
      rw [k1] at sl1
      rw [k2] at sl2
      have n5 : neP (.tup (ws.map .str)) (.tup (ws.map .str)) = some (.bl false) := ne_self (dat_tupS 63 ws)
      have da : dueA ws ws evs evs3 = .tup (evs ++ evs3) := by simp [dueA]
      rw [da] at n3 ⊢
      unfold wv at ad ad0 eqp eqq sl1 sl2 ⊢
      refine ⟨some (.t (.ins 6 (wI ws (evs ++ evs3)))), ?_⟩
      simp [eb_law_17, eb_law_6, eb_law_7, eb_law_8, eb_law_9, ew, rDun2, isIns, callOf, gId, gNot, anyY, ad, ad0, fea, ffa, n3, n1, n5, ff, fe, tupleF, lenF, rMake, i0, eqp, eqq, sl1, sl2]
    · simp [e] at ew
      exact ⟨x15, by simp [eb_law_17, ew]⟩
  obtain ⟨y15, s8⟩ := s8
  refine ⟨o3, some (.t (.lst (ws.map .str))), some (.t (.lst evs)), some (.t (.lst (ws3.map .str))), some (.t (.lst evs3)), some (.t (wv ws evs)), some (.t (wv ws3 evs3)), some (.t (dueA ws ws3 evs evs3)), y11, y12, y14, y15, ?_, b3.mono (by omega)⟩
  rw [eb_law_18, seq_go s1, seq_go s2, seq_go s3, seq_go s4, seq_go s5, seq_go s6, seq_go s7, s8]
theorem plain (ns : List Int) (hl : ns.length ≤ 63) : ∃ as, F_law [.t (.scr ns)] = .ret (.t (.bl true)) as := by
  obtain ⟨o, q0, b0⟩ := A.deal_spec ns 0 (by decide) hl
  have lp : ∃ e, eb_law_20 [some (.t (.scr ns)), some (.ow o), none, none, none, none, none, none, none, none, none, none, none, none, none, none] = .nx e ∧
      ∃ o' x2 y3 y4 y5 y6 y8 y9 y10 y11 y12 y14 y15, e = [some (.t (.scr ns)), some (.ow o'), x2, y3, y4, y5, y6, none, y8, y9, y10, y11, y12, none, y14, y15] := by
    refine sat_nx ?_
    have z : iRngA (aCons (eCon (.int 6)) aNil) [some (.t (.scr ns)), some (.ow o), none, none, none, none, none, none, none, none, none, none, none, none, none, none] = .ok ⟨rangeL 0 6, .tr .non⟩ [some (.t (.scr ns)), some (.ow o), none, none, none, none, none, none, none, none, none, none, none, none, none, none] := by simp
    simp only [eb_law_20, sFor, z, RE.so]
    refine loopF_sat (fun ts e => ts.length ≤ 6 ∧ ∃ o' x2 y3 y4 y5 y6 y8 y9 y10 y11 y12 y14 y15, e = [some (.t (.scr ns)), some (.ow o'), x2, y3, y4, y5, y6, none, y8, y9, y10, y11, y12, none, y14, y15] ∧ IsBox (1000 * (6 - ts.length : Int)) o') (fun _ _ _ => rfl) (fun _ h => ?_) ?_ _ _ ⟨by rw [rangeL_len]; exact Nat.le_refl _, o, none, none, none, none, none, none, none, none, none, none, none, none, rfl, b0.mono (by rw [rangeL_len]; decide)⟩
    · obtain ⟨_, o', x2, y3, y4, y5, y6, y8, y9, y10, y11, y12, y14, y15, rfl, _⟩ := h
      exact ⟨o', x2, y3, y4, y5, y6, y8, y9, y10, y11, y12, y14, y15, rfl⟩
    · rintro t ts env ⟨hl, o', x2, y3, y4, y5, y6, y8, y9, y10, y11, y12, y14, y15, rfl, hb⟩
      rw [List.length_cons] at hl hb
      refine ⟨_, rfl, ?_⟩
      obtain ⟨o2, z3, z4, z5, z6, z8, z9, z10, z11, z12, z14, z15, q, b2⟩ := law_turn (a := some (.t (.scr ns))) (x2 := some (.t t)) (x3 := y3) (x4 := y4) (x5 := y5) (x6 := y6) (x8 := y8) (x9 := y9) (x10 := y10) (x11 := y11) (x12 := y12) (x14 := y14) (x15 := y15) hb (by omega)
      simp only [List.set_cons_succ, List.set_cons_zero, q, SO.Sat]
      exact ⟨by omega, o2, some (.t t), z3, z4, z5, z6, z8, z9, z10, z11, z12, z14, z15, rfl, b2.mono (by omega)⟩
  obtain ⟨e, lp1, o', x2, y3, y4, y5, y6, y8, y9, y10, y11, y12, y14, y15, rfl⟩ := lp
  have s1 : eb_law_19 [some (.t (.scr ns)), none, none, none, none, none, none, none, none, none, none, none, none, none, none, none] = .nx [some (.t (.scr ns)), some (.ow o), none, none, none, none, none, none, none, none, none, none, none, none, none, none] := by
    simp [eb_law_19, deal_eq, q0]
  refine ⟨[.t (.scr ns)], ?_⟩
  have e0 : ev_law [some (.t (.scr ns)), none, none, none, none, none, none, none, none, none, none, none, none, none, none, none] = .rt (.t (.bl true)) [some (.t (.scr ns)), some (.ow o'), x2, y3, y4, y5, y6, none, y8, y9, y10, y11, y12, none, y14, y15] := by
    rw [ev_law, seq_go s1, seq_go lp1]
    simp [eb_law_21]
  simp [F_law, fDef, e0]
end Lk11
end
section
/-! law k11: the walk, the head; printed by wip/gen2.py -/
namespace Lk11
open PySem PySem.Spec PyProof.Rows L2 TreeL
structure Fx (P : Program) (K : PySem.W.Frag) (mg : PySem.Str → Option Value) : Prop where
  f_abs : mg "abs" = none
  f_int : mg "int" = none
  g__law_deal : mg "_law_deal" = some (.ref (He.ga K "_law_deal"))
  f_range : mg "range" = none
  f_list : mg "list" = none
  f_len : mg "len" = none
  g__law_draw : mg "_law_draw" = some (.ref (He.ga K "_law_draw"))
  g__law_pool : mg "_law_pool" = some (.ref (He.ga K "_law_pool"))
  g__law_mixed : mg "_law_mixed" = some (.ref (He.ga K "_law_mixed"))
  g__law_names : mg "_law_names" = some (.ref (He.ga K "_law_names"))
  g__law_pick : mg "_law_pick" = some (.ref (He.ga K "_law_pick"))
  g__law_event : mg "_law_event" = some (.ref (He.ga K "_law_event"))
  g__law_weaving : mg "_law_weaving" = some (.ref (He.ga K "_law_weaving"))
  is_list_tuple : isiB cs ks [.lst, .tup] [.ty "list", .ty "tuple"] K = true
  f_tuple : mg "tuple" = none
  q_Weaving : IsiC K (He.ga K "Weaving")
  f_isinstance : mg "isinstance" = none
  g_is_sequence : mg "is_sequence" = some (.ref (He.ga K "is_sequence"))
  is_str : isiB cs ks [.str] [.ty "str"] K = true
  f_str : mg "str" = none
  g_BARRED : mg "BARRED" = some (.ref (He.ga K "BARRED"))
  t_BARRED : ∀ H, SqT K H (He.ga K "BARRED") ((["and", "any", "do", "if", "none", "not", "same", "send", "then", "time", "to", "wipe", "work"] : List PySem.Str).map V.str)
  s_SMALL : ∃ t, mg "SMALL" = some (.str "abcdefghijklmnopqrstuvwxyz" t)
  f_all : mg "all" = none
  g_is_name : mg "is_name" = some (.ref (He.ga K "is_name"))
  g_are_names : mg "are_names" = some (.ref (He.ga K "are_names"))
  g_are_firsts : mg "are_firsts" = some (.ref (He.ga K "are_firsts"))
  x1_InvalidEvent : (fun K => xcB1 XB.value "at" (He.ga K "InvalidEvent") K) K = true
  x2_InvalidEvent : (fun K => xcB2 "at" PySem.Challenge.pw_stepsback_k11_weavings_put_together.main.file (He.ga K "InvalidEvent") K) K = true
  x3_InvalidEvent : (fun K => xcB3 XB.value "at" (He.ga K "InvalidEvent") K) K = true
  x4_InvalidEvent : (fun K => xcB4 "at" (He.ga K "InvalidEvent") K) K = true
  x5_InvalidEvent : (fun K => xcB5 (He.ga K "InvalidEvent") K) K = true
  g_InvalidEvent : mg "InvalidEvent" = some (.ref (He.ga K "InvalidEvent"))
  f_enumerate : mg "enumerate" = none
  is_tuple : isiB cs ks [.tup] [.ty "tuple"] K = true
  is_int : isiB cs ks [.int, .bl] [.ty "int"] K = true
  is_bool : isiB cs ks [.bl] [.ty "bool"] K = true
  f_bool : mg "bool" = none
  g_is_integer : mg "is_integer" = some (.ref (He.ga K "is_integer"))
  g_OF_LETTERS : mg "OF_LETTERS" = some (.ref (He.ga K "OF_LETTERS"))
  t_OF_LETTERS : ∀ H, SqT K H (He.ga K "OF_LETTERS") ((["back", "there"] : List PySem.Str).map V.str)
  g_is_step : mg "is_step" = some (.ref (He.ga K "is_step"))
  g_OF_STEPS : mg "OF_STEPS" = some (.ref (He.ga K "OF_STEPS"))
  t_OF_STEPS : ∀ H, SqT K H (He.ga K "OF_STEPS") ((["time", "build", "leave", "work", "wipe"] : List PySem.Str).map V.str)
  g_is_event : mg "is_event" = some (.ref (He.ga K "is_event"))
  c_Weaving : Cls K (He.ga K "Weaving")
  n_Weaving__firsts : NoAttr K (He.ga K "Weaving") "firsts"
  n_Weaving__events : NoAttr K (He.ga K "Weaving") "events"
  k_Weaving : Mk K (He.ga K "Weaving") (He.ma K (He.ga K "Weaving") "__init__")
  g_Weaving : mg "Weaving" = some (.ref (He.ga K "Weaving"))
  is_Weaving : isiB cs ks [.ins 6] [.own 6] K = true
  x0_Mismatch : (fun K => x0B XB.value (He.ga K "Mismatch") K) K = true
  g_Mismatch : mg "Mismatch" = some (.ref (He.ga K "Mismatch"))
  m_Weaving____add__ : Meth K (He.ga K "Weaving") "__add__" (He.ma K (He.ga K "Weaving") "__add__")
  sf_Weaving : PySem.W.selfFirst K (He.ga K "Weaving") = true
  g_StepError : mg "StepError" = some (.ref (He.ga K "StepError"))
  xi_28_23 : xiB cs [28, 23] K = true
  kt_28_23_StepError : kitB cs [28, 23] [28, 23] (.own 19) K = true
  g_Refused : mg "Refused" = some (.ref (He.ga K "Refused"))
  kt_28_23_Refused : kitB cs [28, 23] [] (.own 25) K = true
  em_28_23_28 : exmB cs [28, 23] [28] 28 K = true
  g__law_tried : mg "_law_tried" = some (.ref (He.ga K "_law_tried"))
  m_Weaving__alone : Meth K (He.ga K "Weaving") "alone" (He.ma K (He.ga K "Weaving") "alone")
  m_Weaving____eq__ : Meth K (He.ga K "Weaving") "__eq__" (He.ma K (He.ga K "Weaving") "__eq__")
  ne_Weaving : PySem.W.findIn K (.ref (He.ga K "Weaving")) "__ne__" = some (some (.builtin "object.__ne__"))
  o_Weaving : PySem.W.mroIn K (He.ga K "Weaving") (.type "object") = some true
  ia_Weaving : twoMro K (He.ga K "Weaving") = true ∧ PySem.W.findIn K (.ref (He.ga K "Weaving")) (dunderI (Operator.info .Add).2) = some none
  x1_NoEvent : (fun K => xcB1 XB.index "at" (He.ga K "NoEvent") K) K = true
  x2_NoEvent : (fun K => xcB2 "at" PySem.Challenge.pw_stepsback_k11_weavings_put_together.main.file (He.ga K "NoEvent") K) K = true
  x3_NoEvent : (fun K => xcB3 XB.index "at" (He.ga K "NoEvent") K) K = true
  x4_NoEvent : (fun K => xcB4 "at" (He.ga K "NoEvent") K) K = true
  x5_NoEvent : (fun K => xcB5 (He.ga K "NoEvent") K) K = true
  g_NoEvent : mg "NoEvent" = some (.ref (He.ga K "NoEvent"))
  m_Weaving____getitem__ : Meth K (He.ga K "Weaving") "__getitem__" (He.ma K (He.ga K "Weaving") "__getitem__")
  w_Weaving____getitem__ : PySem.W.fnIn K (He.ma K (He.ga K "Weaving") "__getitem__") = true
  nq_Weaving : PySem.W.noSeq K (He.ga K "Weaving") = true
  d_Weaving___init___0 : ∀ H, SqT K H (He.dflAt ("Weaving", some "__init__") 0 K) []
  g_law : mg "law" = some (.ref (He.ga K "law"))
  xc_InvalidEvent : XcAll P K XB.value "at" (He.ga K "InvalidEvent")
  xc_NoEvent : XcAll P K XB.index "at" (He.ga K "NoEvent")
  d__law_deal : ∃ fd, FunD K "_law_deal" "_law_deal" (defArgs (top 26)) (defBody (top 26)) (defScope (top 26)) (([] : List He.Dv).map (He.Dv.v K)) (([] : List (PySem.Str × He.Dv)).map fun q => (q.1, q.2.v K)) (He.ga K "_law_deal") fd
  d__law_draw : ∃ fd, FunD K "_law_draw" "_law_draw" (defArgs (top 27)) (defBody (top 27)) (defScope (top 27)) (([] : List He.Dv).map (He.Dv.v K)) (([] : List (PySem.Str × He.Dv)).map fun q => (q.1, q.2.v K)) (He.ga K "_law_draw") fd
  d__law_mixed : ∃ fd, FunD K "_law_mixed" "_law_mixed" (defArgs (top 29)) (defBody (top 29)) (defScope (top 29)) (([] : List He.Dv).map (He.Dv.v K)) (([] : List (PySem.Str × He.Dv)).map fun q => (q.1, q.2.v K)) (He.ga K "_law_mixed") fd
  d__law_pool : ∃ fd, FunD K "_law_pool" "_law_pool" (defArgs (top 30)) (defBody (top 30)) (defScope (top 30)) (([] : List He.Dv).map (He.Dv.v K)) (([] : List (PySem.Str × He.Dv)).map fun q => (q.1, q.2.v K)) (He.ga K "_law_pool") fd
  d__law_names : ∃ fd, FunD K "_law_names" "_law_names" (defArgs (top 31)) (defBody (top 31)) (defScope (top 31)) (([] : List He.Dv).map (He.Dv.v K)) (([] : List (PySem.Str × He.Dv)).map fun q => (q.1, q.2.v K)) (He.ga K "_law_names") fd
  d__law_pick : ∃ fd, FunD K "_law_pick" "_law_pick" (defArgs (top 28)) (defBody (top 28)) (defScope (top 28)) (([] : List He.Dv).map (He.Dv.v K)) (([] : List (PySem.Str × He.Dv)).map fun q => (q.1, q.2.v K)) (He.ga K "_law_pick") fd
  d__law_event : ∃ fd, FunD K "_law_event" "_law_event" (defArgs (top 32)) (defBody (top 32)) (defScope (top 32)) (([] : List He.Dv).map (He.Dv.v K)) (([] : List (PySem.Str × He.Dv)).map fun q => (q.1, q.2.v K)) (He.ga K "_law_event") fd
  d__law_weaving : ∃ fd, FunD K "_law_weaving" "_law_weaving" (defArgs (top 33)) (defBody (top 33)) (defScope (top 33)) (([] : List He.Dv).map (He.Dv.v K)) (([] : List (PySem.Str × He.Dv)).map fun q => (q.1, q.2.v K)) (He.ga K "_law_weaving") fd
  d_is_sequence : ∃ fd, FunD K "is_sequence" "is_sequence" (defArgs (top 14)) (defBody (top 14)) (defScope (top 14)) (([] : List He.Dv).map (He.Dv.v K)) (([] : List (PySem.Str × He.Dv)).map fun q => (q.1, q.2.v K)) (He.ga K "is_sequence") fd
  d_is_name : ∃ fd, FunD K "is_name" "is_name" (defArgs (top 13)) (defBody (top 13)) (defScope (top 13)) (([] : List He.Dv).map (He.Dv.v K)) (([] : List (PySem.Str × He.Dv)).map fun q => (q.1, q.2.v K)) (He.ga K "is_name") fd
  d_are_names : ∃ fd, FunD K "are_names" "are_names" (defArgs (top 15)) (defBody (top 15)) (defScope (top 15)) (([] : List He.Dv).map (He.Dv.v K)) (([] : List (PySem.Str × He.Dv)).map fun q => (q.1, q.2.v K)) (He.ga K "are_names") fd
  d_are_firsts : ∃ fd, FunD K "are_firsts" "are_firsts" (defArgs (top 23)) (defBody (top 23)) (defScope (top 23)) (([] : List He.Dv).map (He.Dv.v K)) (([] : List (PySem.Str × He.Dv)).map fun q => (q.1, q.2.v K)) (He.ga K "are_firsts") fd
  d_is_integer : ∃ fd, FunD K "is_integer" "is_integer" (defArgs (top 12)) (defBody (top 12)) (defScope (top 12)) (([] : List He.Dv).map (He.Dv.v K)) (([] : List (PySem.Str × He.Dv)).map fun q => (q.1, q.2.v K)) (He.ga K "is_integer") fd
  d_is_step : ∃ fd, FunD K "is_step" "is_step" (defArgs (top 20)) (defBody (top 20)) (defScope (top 20)) (([] : List He.Dv).map (He.Dv.v K)) (([] : List (PySem.Str × He.Dv)).map fun q => (q.1, q.2.v K)) (He.ga K "is_step") fd
  d_is_event : ∃ fd, FunD K "is_event" "is_event" (defArgs (top 21)) (defBody (top 21)) (defScope (top 21)) (([] : List He.Dv).map (He.Dv.v K)) (([] : List (PySem.Str × He.Dv)).map fun q => (q.1, q.2.v K)) (He.ga K "is_event") fd
  d_Weaving___init__ : ∃ fd, FunD K "__init__" "Weaving.__init__" (defArgs (inClass (top 24) 0)) (defBody (inClass (top 24) 0)) (defScope (inClass (top 24) 0)) (([.adr (He.dflAt ("Weaving", some "__init__") 0)] : List He.Dv).map (He.Dv.v K)) (([] : List (PySem.Str × He.Dv)).map fun q => (q.1, q.2.v K)) (He.ma K (He.ga K "Weaving") "__init__") fd
  d_Weaving___add__ : ∃ fd, FunD K "__add__" "Weaving.__add__" (defArgs (inClass (top 24) 7)) (defBody (inClass (top 24) 7)) (defScope (inClass (top 24) 7)) (([] : List He.Dv).map (He.Dv.v K)) (([] : List (PySem.Str × He.Dv)).map fun q => (q.1, q.2.v K)) (He.ma K (He.ga K "Weaving") "__add__") fd
  d__law_tried : ∃ fd, FunD K "_law_tried" "_law_tried" (defArgs (top 34)) (defBody (top 34)) (defScope (top 34)) (([] : List He.Dv).map (He.Dv.v K)) (([] : List (PySem.Str × He.Dv)).map fun q => (q.1, q.2.v K)) (He.ga K "_law_tried") fd
  d_Weaving_alone : ∃ fd, FunD K "alone" "Weaving.alone" (defArgs (inClass (top 24) 3)) (defBody (inClass (top 24) 3)) (defScope (inClass (top 24) 3)) (([] : List He.Dv).map (He.Dv.v K)) (([] : List (PySem.Str × He.Dv)).map fun q => (q.1, q.2.v K)) (He.ma K (He.ga K "Weaving") "alone") fd
  d_Weaving___eq__ : ∃ fd, FunD K "__eq__" "Weaving.__eq__" (defArgs (inClass (top 24) 8)) (defBody (inClass (top 24) 8)) (defScope (inClass (top 24) 8)) (([] : List He.Dv).map (He.Dv.v K)) (([] : List (PySem.Str × He.Dv)).map fun q => (q.1, q.2.v K)) (He.ma K (He.ga K "Weaving") "__eq__") fd
  d_Weaving___getitem__ : ∃ fd, FunD K "__getitem__" "Weaving.__getitem__" (defArgs (inClass (top 24) 5)) (defBody (inClass (top 24) 5)) (defScope (inClass (top 24) 5)) (([] : List He.Dv).map (He.Dv.v K)) (([] : List (PySem.Str × He.Dv)).map fun q => (q.1, q.2.v K)) (He.ma K (He.ga K "Weaving") "__getitem__") fd
  d_law : ∃ fd, FunD K "law" "law" (defArgs (top 35)) (defBody (top 35)) (defScope (top 35)) (([] : List He.Dv).map (He.Dv.v K)) (([] : List (PySem.Str × He.Dv)).map fun q => (q.1, q.2.v K)) (He.ga K "law") fd
section
variable {P : Program} {w : World} {K : PySem.W.Frag} {mg : PySem.Str → Option Value} {base : Heap}
def N__law_deal : List PySem.Str := ["_law_script", "_law_base", "_law_cells", "_law_cell", "_law_mixed_here", "_law_great"]
theorem sc__law_deal : FnScope N__law_deal ["_law_script", "_law_base"] (defScope (top 26)) := ⟨rfl, rfl, rfl, by decide +kernel, rfl, by decide +kernel, by decide +kernel⟩
theorem ok__law_deal (fx : Fx P K mg) {fd : FuncData} (D : FunD K "_law_deal" "_law_deal" (defArgs (top 26)) (defBody (top 26)) (defScope (top 26)) (([] : List He.Dv).map (He.Dv.v K)) (([] : List (PySem.Str × He.Dv)).map fun q => (q.1, q.2.v K)) (He.ga K "_law_deal") fd) : FnG P w K mg base 2 (He.ga K "_law_deal") fd ["_law_script", "_law_base"] (spF (tcN K cs) 2 Lib.F_h_deal) := by
  refine fn_tree D sc__law_deal (by decide) fun cdv A outer s H E r => ?_
  intro X hr hp tk po
  have hK : X.K = (tcN K cs).K := rfl
  have hc : X.calm = true := rfl
  have nd : X.N.Nodup := sc__law_deal.nd
  exact (tss_cons (ts_setLc (i := 2) (own := [("_law_cell", 3)]) (us := [3]) hc nd rfl rfl (npin hp) rfl (npins hp) subl (ti_any hp hK (pt_res (tr_sl hK (pt_var (pv 0)) (to_so (pt_var (pv 1))) (to_so pt_int)))) (blkOk_by (by kernel_rfl)) (fun s H C cl fp => (tg_name (i := 3) (pg_name (i := 3) nd rfl locOf) (npin hp))) (fun s H C cl fp => tts_nil) (fun s H C cl fp => (pt_res (tr_bui (x := "abs") bu_abs rfl fx.f_abs boot_abs (ta_cons (pt_var (pv 3)) ta_nil)))))
    (tss_cons (ts_set (i := 4) nd rfl locOf (npin hp) (pt_res (tr_bin (op_addA hK) pt_int (pt_var (pv 1)))))
    (tss_cons (ts_for (xs := Lib.eb_h_deal_1) po hc (ti_any hp hK (pt_var (pv 2))) (tg_name (i := 3) (pg_name (i := 3) nd rfl locOf) (npin hp)) (tss_one (ts_set (i := 4) nd rfl locOf (npin hp) (pt_bin op_modP (pt_res (tr_buiT (x := "int") bu_int rfl fx.f_int boot_int (ta_cons (pt_res (tr_bin (op_addA hK) (pt_res (tr_bin op_mulA (pt_var (pv 4)) pt_int)) (pt_var (pv 3)))) ta_nil))) pt_int))))
    (tss_cons (ts_setLc (i := 5) (own := [("_law_cell", 3)]) (us := [3]) hc nd rfl rfl (npin hp) rfl (npins hp) subl (ti_any hp hK (pt_var (pv 2))) (blkOk_by (by kernel_rfl)) (fun s H C cl fp => (tg_name (i := 3) (pg_name (i := 3) nd rfl locOf) (npin hp))) (fun s H C cl fp => (tts_one (tt_cmp op_geP (pt_var (pv 3)) (pt_bin op_powP pt_int pt_int) rfl))) (fun s H C cl fp => (pt_var (pv 3))))
    (tss_one (ts_retF (pf_box (fs := [("now", (eCon (.int 0))), ("mixed", (eRes (rBin addA (eVar 4) (eCon (.int 1))))), ("turn", (eCon (.int 0)))]) (pps_cons pe_str (pf_res (tr_rev (pt_var (pv 5)))) (pps_cons pe_str pt_int (pps_cons pe_str (pt_res (tr_bin (op_addA hK) (pt_var (pv 4)) pt_int)) (pps_cons pe_str pt_int pps_nil)))) (by decide +kernel) (by decide))))))))
def N__law_draw : List PySem.Str := ["_law_deal_here", "_law_many", "_law_digit", "_law_first", "_law_second"]
theorem sc__law_draw : FnScope N__law_draw ["_law_deal_here", "_law_many"] (defScope (top 27)) := ⟨rfl, rfl, rfl, by decide +kernel, rfl, by decide +kernel, by decide +kernel⟩
theorem ok__law_draw (fx : Fx P K mg) {fd : FuncData} (D : FunD K "_law_draw" "_law_draw" (defArgs (top 27)) (defBody (top 27)) (defScope (top 27)) (([] : List He.Dv).map (He.Dv.v K)) (([] : List (PySem.Str × He.Dv)).map fun q => (q.1, q.2.v K)) (He.ga K "_law_draw") fd) : FnG P w K mg base 2 (He.ga K "_law_draw") fd ["_law_deal_here", "_law_many"] (spF (tcN K cs) 2 Lib.F_h_draw) := by
  refine fn_tree D sc__law_draw (by decide) fun cdv A outer s H E r => ?_
  intro X hr hp tk po
  have hK : X.K = (tcN K cs).K := rfl
  have hc : X.calm = true := rfl
  have nd : X.N.Nodup := sc__law_draw.nd
  exact (tss_cons (ts_while (xs := Lib.eb_h_draw_1) 1000 po (tt_w (tw_and (tt_cmp (op_eqP hK (u64 hr)) (pt_bget (u1 hr) (pv 0)) pt_int rfl) (tw_and1 (tt_cmp op_gtP (pt_blen (u1 hr) rfl fx.f_len (pv 0)) pt_int rfl)))) (tss_one (ts_bput (u1 hr) (pv 0) (pt_bpop hK (u1 hr) (pv 0)))))
    (tss_cons (ts_if (tt_cmp op_gtP (pt_bget (u1 hr) (pv 0)) pt_int rfl) (tss_cons (ts_set (i := 2) nd rfl locOf (npin hp) (pt_bin op_modP (pt_res (tr_buiT (x := "int") bu_int rfl fx.f_int boot_int (ta_cons (pt_bget (u1 hr) (pv 0)) ta_nil))) (pt_var (pv 1))))
    (tss_cons (ts_bput (u1 hr) (pv 0) (pt_bin op_fdivP (pt_bget (u1 hr) (pv 0)) (pt_var (pv 1))))
    (tss_one (ts_ret hp (pt_var (pv 2)))))) tss_nil)
    (tss_cons (ts_bput (u1 hr) (pv 0) (pt_res (tr_bin (op_addA hK) (pt_bget (u1 hr) (pv 0)) pt_int)))
    (tss_cons (ts_set (i := 3) nd rfl locOf (npin hp) (pt_bin op_modP (pt_res (tr_buiT (x := "int") bu_int rfl fx.f_int boot_int (ta_cons (pt_res (tr_bin (op_addA hK) (pt_res (tr_bin op_mulA (pt_bget (u1 hr) (pv 0)) pt_int)) (pt_res (tr_bin op_mulA (pt_bget (u1 hr) (pv 0)) pt_int)))) ta_nil))) pt_int))
    (tss_cons (ts_set (i := 4) nd rfl locOf (npin hp) (pt_bin op_modP (pt_res (tr_buiT (x := "int") bu_int rfl fx.f_int boot_int (ta_cons (pt_res (tr_bin (op_addA hK) (pt_res (tr_bin op_mulA (pt_var (pv 3)) (pt_var (pv 3)))) (pt_res (tr_bin op_mulA (pt_bget (u1 hr) (pv 0)) pt_int)))) ta_nil))) pt_int))
    (tss_cons (ts_bput (u1 hr) (pv 0) (pt_res (tr_bin (op_addA hK) (pt_bin op_modP (pt_res (tr_buiT (x := "int") bu_int rfl fx.f_int boot_int (ta_cons (pt_res (tr_bin (op_addA hK) (pt_res (tr_bin op_mulA (pt_var (pv 4)) pt_int)) (pt_var (pv 3)))) ta_nil))) pt_int) pt_int)))
    (tss_one (ts_ret hp (pt_bin op_modP (pt_res (tr_buiT (x := "int") bu_int rfl fx.f_int boot_int (ta_cons (pt_res (tr_bin (op_addA hK) (pt_bin op_fdivP (pt_var (pv 4)) pt_int) (pt_var (pv 3)))) ta_nil))) (pt_var (pv 1)))))))))))
def N__law_mixed : List PySem.Str := ["_law_deal_here", "_law_some", "_law_left", "_law_found"]
theorem sc__law_mixed : FnScope N__law_mixed ["_law_deal_here", "_law_some"] (defScope (top 29)) := ⟨rfl, rfl, rfl, by decide +kernel, rfl, by decide +kernel, by decide +kernel⟩
theorem ok__law_mixed (fx : Fx P K mg) {fd : FuncData} (D : FunD K "_law_mixed" "_law_mixed" (defArgs (top 29)) (defBody (top 29)) (defScope (top 29)) (([] : List He.Dv).map (He.Dv.v K)) (([] : List (PySem.Str × He.Dv)).map fun q => (q.1, q.2.v K)) (He.ga K "_law_mixed") fd) : FnG P w K mg base 3 (He.ga K "_law_mixed") fd ["_law_deal_here", "_law_some"] (spF (tcN K cs) 2 Lib.F_h_mixed) := by
  obtain ⟨fd__law_draw, D__law_draw⟩ := fx.d__law_draw
  refine fn_tree D sc__law_mixed (by decide) fun cdv A outer s H E r => ?_
  intro X hr hp tk po
  have hK : X.K = (tcN K cs).K := rfl
  have hc : X.calm = true := rfl
  have nd : X.N.Nodup := sc__law_mixed.nd
  have hr2 : RoomG 2 X.A := hr.mono (by decide)
  exact (tss_cons (ts_par (i := 2) (j := 3) hc nd rfl rfl (by decide) rfl rfl (npin hp) (npin hp) (tb_cons (tr_own (pf_res (tr_buiT (x := "list") (bu_list hK) rfl fx.f_list boot_list (ta_cons (pt_var (pv 1)) ta_nil)))) (tb_cons (tr_own (pf_lst ta_nil)) tb_nil)))
    (tss_cons (ts_while (xs := Lib.eb_h_mixed_1) 1000 po (tt_cmp (op_neP hK (u64 hr)) (pt_var (pv 2)) (pt_lst ta_nil) rfl) (tss_one (ts_expr (pt_mut (T := "list") (id := "list.append") (name := "append") hK PySem.F.plainAttrs_list PySem.F.slot_list_append PySem.F.type_list_append mu_append (pv 3) (ta_cons (pt_mut (T := "list") (id := "list.pop") (name := "pop") hK PySem.F.plainAttrs_list PySem.F.slot_list_pop PySem.F.type_list_pop mu_pop (pv 2) (ta_cons (pt_res (tr_call ((ok__law_draw fx D__law_draw).mono (Nat.le_refl _)) (Fill.all (D__law_draw.bindsN fun _ _ _ _ _ _ us hl => match us, hl with | [_, _], _ => rfl)) hr2 tk rfl fx.g__law_draw D__law_draw.kp (ta_cons (pt_var (pv 0)) (ta_cons (pt_res (tr_bui (x := "len") (bu_len hK) rfl fx.f_len boot_len (ta_cons (pt_var (pv 2)) ta_nil))) ta_nil)))) ta_nil)) ta_nil)))))
    (tss_one (ts_ret hp (pt_var (pv 3))))))
def N__law_pool : List PySem.Str := ["_law_some"]
theorem sc__law_pool : FnScope N__law_pool [] (defScope (top 30)) := ⟨rfl, rfl, rfl, by decide +kernel, rfl, by decide +kernel, by decide +kernel⟩
theorem ok__law_pool (fx : Fx P K mg) {fd : FuncData} (D : FunD K "_law_pool" "_law_pool" (defArgs (top 30)) (defBody (top 30)) (defScope (top 30)) (([] : List He.Dv).map (He.Dv.v K)) (([] : List (PySem.Str × He.Dv)).map fun q => (q.1, q.2.v K)) (He.ga K "_law_pool") fd) : FnG P w K mg base 2 (He.ga K "_law_pool") fd [] (spF (tcN K cs) 0 Lib.F_h_pool) := by
  refine fn_tree D sc__law_pool (by decide) fun cdv A outer s H E r => ?_
  intro X hr hp tk po
  have hK : X.K = (tcN K cs).K := rfl
  have hc : X.calm = true := rfl
  have nd : X.N.Nodup := sc__law_pool.nd
  exact (tss_cons (ts_set (i := 0) nd rfl locOf (npin hp) (pt_lst (ta_cons pt_str (ta_cons pt_str (ta_cons pt_str (ta_cons pt_str (ta_cons pt_str (ta_cons pt_str (ta_cons pt_str (ta_cons pt_str (ta_cons pt_str (ta_cons pt_str ta_nil))))))))))))
    (tss_one (ts_ret hp (pt_res (tr_bin (op_addA hK) (pt_var (pv 0)) (pt_lst (ta_cons pt_str (ta_cons pt_str (ta_cons pt_str (ta_cons pt_str (ta_cons pt_str ta_nil)))))))))))
def N__law_names : List PySem.Str := ["_law_deal_here", "_law_many"]
theorem sc__law_names : FnScope N__law_names ["_law_deal_here", "_law_many"] (defScope (top 31)) := ⟨rfl, rfl, rfl, by decide +kernel, rfl, by decide +kernel, by decide +kernel⟩
theorem ok__law_names (fx : Fx P K mg) {fd : FuncData} (D : FunD K "_law_names" "_law_names" (defArgs (top 31)) (defBody (top 31)) (defScope (top 31)) (([] : List He.Dv).map (He.Dv.v K)) (([] : List (PySem.Str × He.Dv)).map fun q => (q.1, q.2.v K)) (He.ga K "_law_names") fd) : FnG P w K mg base 4 (He.ga K "_law_names") fd ["_law_deal_here", "_law_many"] (spF (tcN K cs) 2 Lib.F_h_names) := by
  obtain ⟨fd__law_mixed, D__law_mixed⟩ := fx.d__law_mixed
  obtain ⟨fd__law_pool, D__law_pool⟩ := fx.d__law_pool
  refine fn_tree D sc__law_names (by decide) fun cdv A outer s H E r => ?_
  intro X hr hp tk po
  have hK : X.K = (tcN K cs).K := rfl
  have hc : X.calm = true := rfl
  have nd : X.N.Nodup := sc__law_names.nd
  have hr2 : RoomG 2 X.A := hr.mono (by decide)
  have hr3 : RoomG 3 X.A := hr.mono (by decide)
  exact (tss_one (ts_ret hp (pt_res (tr_sl hK (pt_res (tr_call ((ok__law_mixed fx D__law_mixed).mono (Nat.le_refl _)) (Fill.all (D__law_mixed.bindsN fun _ _ _ _ _ _ us hl => match us, hl with | [_, _], _ => rfl)) hr3 tk rfl fx.g__law_mixed D__law_mixed.kp (ta_cons (pt_var (pv 0)) (ta_cons (pt_res (tr_call0 ((ok__law_pool fx D__law_pool).mono (Nat.le_refl _)) (Fill.all (D__law_pool.bindsN fun _ _ _ _ _ _ us hl => match us, hl with | [], _ => rfl)) hr2 tk rfl fx.g__law_pool D__law_pool.kp)) ta_nil)))) to_no (to_so (pt_var (pv 1)))))))
def N__law_pick : List PySem.Str := ["_law_deal_here", "_law_some"]
theorem sc__law_pick : FnScope N__law_pick ["_law_deal_here", "_law_some"] (defScope (top 28)) := ⟨rfl, rfl, rfl, by decide +kernel, rfl, by decide +kernel, by decide +kernel⟩
theorem ok__law_pick (fx : Fx P K mg) {fd : FuncData} (D : FunD K "_law_pick" "_law_pick" (defArgs (top 28)) (defBody (top 28)) (defScope (top 28)) (([] : List He.Dv).map (He.Dv.v K)) (([] : List (PySem.Str × He.Dv)).map fun q => (q.1, q.2.v K)) (He.ga K "_law_pick") fd) : FnG P w K mg base 3 (He.ga K "_law_pick") fd ["_law_deal_here", "_law_some"] (spF (tcN K cs) 2 Lib.F_h_pick) := by
  obtain ⟨fd__law_draw, D__law_draw⟩ := fx.d__law_draw
  refine fn_tree D sc__law_pick (by decide) fun cdv A outer s H E r => ?_
  intro X hr hp tk po
  have hK : X.K = (tcN K cs).K := rfl
  have hc : X.calm = true := rfl
  have nd : X.N.Nodup := sc__law_pick.nd
  have hr2 : RoomG 2 X.A := hr.mono (by decide)
  exact (tss_one (ts_ret hp (pt_ix hK (pt_var (pv 1)) (pt_res (tr_call ((ok__law_draw fx D__law_draw).mono (Nat.le_refl _)) (Fill.all (D__law_draw.bindsN fun _ _ _ _ _ _ us hl => match us, hl with | [_, _], _ => rfl)) hr2 tk rfl fx.g__law_draw D__law_draw.kp (ta_cons (pt_var (pv 0)) (ta_cons (pt_res (tr_bui (x := "len") (bu_len hK) rfl fx.f_len boot_len (ta_cons (pt_var (pv 1)) ta_nil))) ta_nil)))) (fun _ _ => rfl))))
def N__law_event : List PySem.Str := ["_law_deal_here", "_law_many", "_law_letters", "_law_form", "_law_step"]
theorem sc__law_event : FnScope N__law_event ["_law_deal_here", "_law_many", "_law_letters"] (defScope (top 32)) := ⟨rfl, rfl, rfl, by decide +kernel, rfl, by decide +kernel, by decide +kernel⟩
theorem ok__law_event (fx : Fx P K mg) {fd : FuncData} (D : FunD K "_law_event" "_law_event" (defArgs (top 32)) (defBody (top 32)) (defScope (top 32)) (([] : List He.Dv).map (He.Dv.v K)) (([] : List (PySem.Str × He.Dv)).map fun q => (q.1, q.2.v K)) (He.ga K "_law_event") fd) : FnG P w K mg base 4 (He.ga K "_law_event") fd ["_law_deal_here", "_law_many", "_law_letters"] (spF (tcN K cs) 3 Lib.F_h_event) := by
  obtain ⟨fd__law_draw, D__law_draw⟩ := fx.d__law_draw
  obtain ⟨fd__law_pick, D__law_pick⟩ := fx.d__law_pick
  refine fn_tree D sc__law_event (by decide) fun cdv A outer s H E r => ?_
  intro X hr hp tk po
  have hK : X.K = (tcN K cs).K := rfl
  have hc : X.calm = true := rfl
  have nd : X.N.Nodup := sc__law_event.nd
  have hr2 : RoomG 2 X.A := hr.mono (by decide)
  have hr3 : RoomG 3 X.A := hr.mono (by decide)
  exact (tss_cons (ts_par (i := 3) (j := 4) hc nd rfl rfl (by decide) rfl rfl (npin hp) (npin hp) (tb_cons (tr_tree (pt_res (tr_call ((ok__law_draw fx D__law_draw).mono (Nat.le_refl _)) (Fill.all (D__law_draw.bindsN fun _ _ _ _ _ _ us hl => match us, hl with | [_, _], _ => rfl)) hr2 tk rfl fx.g__law_draw D__law_draw.kp (ta_cons (pt_var (pv 0)) (ta_cons pt_int ta_nil))))) (tb_cons (tr_tree (pt_res (tr_call ((ok__law_draw fx D__law_draw).mono (Nat.le_refl _)) (Fill.all (D__law_draw.bindsN fun _ _ _ _ _ _ us hl => match us, hl with | [_, _], _ => rfl)) hr2 tk rfl fx.g__law_draw D__law_draw.kp (ta_cons (pt_var (pv 0)) (ta_cons (pt_var (pv 1)) ta_nil))))) tb_nil)))
    (tss_cons (ts_if (tt_cmp op_ltP (pt_var (pv 3)) pt_int rfl) (tss_one (ts_ret hp (pt_tup (ta_cons (pt_ix hK (pt_lst (ta_cons pt_str (ta_cons pt_str ta_nil))) (pt_var (pv 3)) (fun _ _ => rfl)) (ta_cons (pt_var (pv 4)) (ta_cons (pt_res (tr_call ((ok__law_pick fx D__law_pick).mono (Nat.le_refl _)) (Fill.all (D__law_pick.bindsN fun _ _ _ _ _ _ us hl => match us, hl with | [_, _], _ => rfl)) hr3 tk rfl fx.g__law_pick D__law_pick.kp (ta_cons (pt_var (pv 0)) (ta_cons (pt_var (pv 2)) ta_nil)))) ta_nil)))))) tss_nil)
    (tss_cons (ts_if (tt_cmp (op_eqP hK (u64 hr)) (pt_var (pv 3)) pt_int rfl) (tss_one (ts_ret hp (pt_tup (ta_cons pt_str (ta_cons (pt_res (tr_call ((ok__law_draw fx D__law_draw).mono (Nat.le_refl _)) (Fill.all (D__law_draw.bindsN fun _ _ _ _ _ _ us hl => match us, hl with | [_, _], _ => rfl)) hr2 tk rfl fx.g__law_draw D__law_draw.kp (ta_cons (pt_var (pv 0)) (ta_cons pt_int ta_nil)))) ta_nil))))) tss_nil)
    (tss_one (ts_ret hp (pt_tup (ta_cons (pt_ix hK (pt_lst (ta_cons pt_str (ta_cons pt_str (ta_cons pt_str (ta_cons pt_str (ta_cons pt_str ta_nil)))))) (pt_bin op_subP (pt_var (pv 3)) pt_int) (fun _ _ => rfl)) (ta_cons (pt_var (pv 4)) ta_nil))))))))
def N__law_weaving : List PySem.Str := ["_law_deal_here", "_law_most", "_law_names_here", "_law_firsts", "_law_k"]
theorem sc__law_weaving : FnScope N__law_weaving ["_law_deal_here", "_law_most"] (defScope (top 33)) := ⟨rfl, rfl, rfl, by decide +kernel, rfl, by decide +kernel, by decide +kernel⟩
theorem ok__law_weaving (fx : Fx P K mg) {fd : FuncData} (D : FunD K "_law_weaving" "_law_weaving" (defArgs (top 33)) (defBody (top 33)) (defScope (top 33)) (([] : List He.Dv).map (He.Dv.v K)) (([] : List (PySem.Str × He.Dv)).map fun q => (q.1, q.2.v K)) (He.ga K "_law_weaving") fd) : FnG P w K mg base 5 (He.ga K "_law_weaving") fd ["_law_deal_here", "_law_most"] (spF (tcN K cs) 2 Lib.F_h_weaving) := by
  obtain ⟨fd__law_names, D__law_names⟩ := fx.d__law_names
  obtain ⟨fd__law_draw, D__law_draw⟩ := fx.d__law_draw
  obtain ⟨fd__law_pick, D__law_pick⟩ := fx.d__law_pick
  obtain ⟨fd__law_event, D__law_event⟩ := fx.d__law_event
  refine fn_tree D sc__law_weaving (by decide) fun cdv A outer s H E r => ?_
  intro X hr hp tk po
  have hK : X.K = (tcN K cs).K := rfl
  have hc : X.calm = true := rfl
  have nd : X.N.Nodup := sc__law_weaving.nd
  have hr2 : RoomG 2 X.A := hr.mono (by decide)
  have hr3 : RoomG 3 X.A := hr.mono (by decide)
  have hr4 : RoomG 4 X.A := hr.mono (by decide)
  exact (tss_cons (ts_set (i := 2) nd rfl locOf (npin hp) (pt_res (tr_call ((ok__law_names fx D__law_names).mono (Nat.le_refl _)) (Fill.all (D__law_names.bindsN fun _ _ _ _ _ _ us hl => match us, hl with | [_, _], _ => rfl)) hr4 tk rfl fx.g__law_names D__law_names.kp (ta_cons (pt_var (pv 0)) (ta_cons pt_int ta_nil)))))
    (tss_cons (ts_set (i := 3) nd rfl locOf (npin hp) (pt_of (pf_lc (own := [("_law_k", 4)]) (us := [4]) hc nd (npins hp) subl (ti_range1 rfl fx.f_range (ta_cons (pt_res (tr_bin (op_addA hK) pt_int (pt_res (tr_call ((ok__law_draw fx D__law_draw).mono (Nat.le_refl _)) (Fill.all (D__law_draw.bindsN fun _ _ _ _ _ _ us hl => match us, hl with | [_, _], _ => rfl)) hr2 tk rfl fx.g__law_draw D__law_draw.kp (ta_cons (pt_var (pv 0)) (ta_cons pt_int ta_nil)))))) ta_nil)) (blkOk_by (by kernel_rfl)) (fun s H C cl fp => (tg_name (i := 4) (pg_name (i := 4) nd rfl locOf) (npin hp))) (fun s H C cl fp => tts_nil) (fun s H C cl fp => (pt_res (tr_call ((ok__law_pick fx D__law_pick).mono (Nat.le_refl _)) (Fill.all (D__law_pick.bindsN fun _ _ _ _ _ _ us hl => match us, hl with | [_, _], _ => rfl)) hr3 takesW0 rfl fx.g__law_pick D__law_pick.kp (ta_cons (pt_var (pv 0)) (ta_cons (pt_res (tr_sl hK (pt_var (pv 2)) to_no (to_so pt_int))) ta_nil))))))))
    (tss_one (ts_ret hp (pt_tup (ta_cons (pt_var (pv 3)) (ta_cons (pt_of (pf_lc (own := [("_law_k", 4)]) (us := [4]) hc nd (npins hp) subl (ti_range1 rfl fx.f_range (ta_cons (pt_res (tr_call ((ok__law_draw fx D__law_draw).mono (Nat.le_refl _)) (Fill.all (D__law_draw.bindsN fun _ _ _ _ _ _ us hl => match us, hl with | [_, _], _ => rfl)) hr2 tk rfl fx.g__law_draw D__law_draw.kp (ta_cons (pt_var (pv 0)) (ta_cons (pt_res (tr_bin (op_addA hK) (pt_var (pv 1)) pt_int)) ta_nil)))) ta_nil)) (blkOk_by (by kernel_rfl)) (fun s H C cl fp => (tg_name (i := 4) (pg_name (i := 4) nd rfl locOf) (npin hp))) (fun s H C cl fp => tts_nil) (fun s H C cl fp => (pt_res (tr_call ((ok__law_event fx D__law_event).mono (Nat.le_refl _)) (Fill.all (D__law_event.bindsN fun _ _ _ _ _ _ us hl => match us, hl with | [_, _, _], _ => rfl)) hr4 takesW0 rfl fx.g__law_event D__law_event.kp (ta_cons (pt_var (pv 0)) (ta_cons (pt_res (tr_bui (x := "len") (bu_len hK) rfl fx.f_len boot_len (ta_cons (pt_var (pv 3)) ta_nil))) (ta_cons (pt_res (tr_sl hK (pt_var (pv 2)) (to_so pt_int) to_no)) ta_nil)))))))) ta_nil)))))))
def N_is_sequence : List PySem.Str := ["value"]
theorem sc_is_sequence : FnScope N_is_sequence ["value"] (defScope (top 14)) := ⟨rfl, rfl, rfl, by decide +kernel, rfl, by decide +kernel, by decide +kernel⟩
theorem ok_is_sequence (fx : Fx P K mg) {fd : FuncData} (D : FunD K "is_sequence" "is_sequence" (defArgs (top 14)) (defBody (top 14)) (defScope (top 14)) (([] : List He.Dv).map (He.Dv.v K)) (([] : List (PySem.Str × He.Dv)).map fun q => (q.1, q.2.v K)) (He.ga K "is_sequence") fd) : FnG P w K mg base 2 (He.ga K "is_sequence") fd ["value"] (spF (tcN K cs) 1 (Lib.F_is_sequence ks)) := by
  refine fn_tree D sc_is_sequence (by decide) fun cdv A outer s H E r => ?_
  intro X hr hp tk po
  have hK : X.K = (tcN K cs).K := rfl
  have hc : X.calm = true := rfl
  have nd : X.N.Nodup := sc_is_sequence.nd
  exact (tss_one (ts_ret hp (pt_isiT (tcl := fun _ _ _ => True) (us := [.ty "list", .ty "tuple"].map (Tgt.val (tcN K cs))) (vs := [.ty "list", .ty "tuple"].map (Tgt.v (tcN K cs))) hK (AllP.all (.cons fx.q_Weaving .nil)) (tgtAll _) (lenT (by decide +kernel)) (isiB_ok fx.is_list_tuple) rfl fx.f_isinstance (pt_var (pv 0)) (pa_cons (pe_bltT (x := "list") (T := "list") (by rfl) fx.f_list boot_list) (pa_cons (pe_bltT (x := "tuple") (T := "tuple") (by rfl) fx.f_tuple boot_tuple) pa_nil)))))
def N_is_name : List PySem.Str := ["value", "sign"]
theorem sc_is_name : FnScope N_is_name ["value"] (defScope (top 13)) := ⟨rfl, rfl, rfl, by decide +kernel, rfl, by decide +kernel, by decide +kernel⟩
theorem ok_is_name (fx : Fx P K mg) {fd : FuncData} (D : FunD K "is_name" "is_name" (defArgs (top 13)) (defBody (top 13)) (defScope (top 13)) (([] : List He.Dv).map (He.Dv.v K)) (([] : List (PySem.Str × He.Dv)).map fun q => (q.1, q.2.v K)) (He.ga K "is_name") fd) : FnG P w K mg base 2 (He.ga K "is_name") fd ["value"] (spF (tcN K cs) 1 (Lib.F_is_name ks)) := by
  refine fn_tree D sc_is_name (by decide) fun cdv A outer s H E r => ?_
  intro X hr hp tk po
  have hK : X.K = (tcN K cs).K := rfl
  have hc : X.calm = true := rfl
  have nd : X.N.Nodup := sc_is_name.nd
  exact (tss_cons (ts_if (tt_w (tw_or (tt_not (tt_truth hK (pt_isi hK (AllP.all (.cons fx.q_Weaving .nil)) (Tgt.cls (tcN K cs) (.ty "str")) (fun d b h1 h2 => kitOne_of (isiB_ok fx.is_str d b h1 h2)) rfl fx.f_isinstance (pt_var (pv 0)) (pe_bltT (x := "str") (T := "str") (by rfl) fx.f_str boot_str)))) (tw_or (tt_not (tt_chain op_leP op_leP pt_int (pt_res (tr_bui (x := "len") (bu_len hK) rfl fx.f_len boot_len (ta_cons (pt_var (pv 0)) ta_nil))) pt_int)) (tw_or1 (tt_cmp (op_inP hK (u65 hr)) (pt_var (pv 0)) (pt_gref rfl fx.g_BARRED (krep_tupS fx.t_BARRED (strsG (by decide +kernel)))) rfl))))) (tss_one (ts_ret hp pt_bl)) tss_nil)
    (tss_one (ts_ret hp (pt_res (tr_bui (x := "all") (bu_all hc) rfl fx.f_all boot_all (ta_cons (pt_of (pf_lc (own := [("sign", 1)]) (us := [1]) hc nd (npins hp) subl (ti_any hp hK (pt_var (pv 0))) (blkOk_by (by kernel_rfl)) (fun s H C cl fp => (tg_name (i := 1) (pg_name (i := 1) nd rfl locOf) (npin hp))) (fun s H C cl fp => tts_nil) (fun s H C cl fp => (pt_cmp (op_inP hK (u65 hr)) (pt_var (pv 1)) (pt_gstr rfl fx.s_SMALL (strG_by (by decide +kernel))) rfl)))) ta_nil))))))
def N_are_names : List PySem.Str := ["value", "one"]
theorem sc_are_names : FnScope N_are_names ["value"] (defScope (top 15)) := ⟨rfl, rfl, rfl, by decide +kernel, rfl, by decide +kernel, by decide +kernel⟩
theorem ok_are_names (fx : Fx P K mg) {fd : FuncData} (D : FunD K "are_names" "are_names" (defArgs (top 15)) (defBody (top 15)) (defScope (top 15)) (([] : List He.Dv).map (He.Dv.v K)) (([] : List (PySem.Str × He.Dv)).map fun q => (q.1, q.2.v K)) (He.ga K "are_names") fd) : FnG P w K mg base 3 (He.ga K "are_names") fd ["value"] (spF (tcN K cs) 1 (Lib.F_are_names ks)) := by
  obtain ⟨fd_is_sequence, D_is_sequence⟩ := fx.d_is_sequence
  obtain ⟨fd_is_name, D_is_name⟩ := fx.d_is_name
  refine fn_tree D sc_are_names (by decide) fun cdv A outer s H E r => ?_
  intro X hr hp tk po
  have hK : X.K = (tcN K cs).K := rfl
  have hc : X.calm = true := rfl
  have nd : X.N.Nodup := sc_are_names.nd
  have hr2 : RoomG 2 X.A := hr.mono (by decide)
  exact (tss_one (ts_ret hp (pt_and hK (pt_res (tr_call ((ok_is_sequence fx D_is_sequence).mono (Nat.le_refl _)) (Fill.all (D_is_sequence.bindsN fun _ _ _ _ _ _ us hl => match us, hl with | [_], _ => rfl)) hr2 tk rfl fx.g_is_sequence D_is_sequence.kp (ta_cons (pt_var (pv 0)) ta_nil))) (pt_one (pt_res (tr_bui (x := "all") (bu_all hc) rfl fx.f_all boot_all (ta_cons (pt_of (pf_lc (own := [("one", 1)]) (us := [1]) hc nd (npins hp) subl (ti_any hp hK (pt_var (pv 0))) (blkOk_by (by kernel_rfl)) (fun s H C cl fp => (tg_name (i := 1) (pg_name (i := 1) nd rfl locOf) (npin hp))) (fun s H C cl fp => tts_nil) (fun s H C cl fp => (pt_res (tr_call ((ok_is_name fx D_is_name).mono (Nat.le_refl _)) (Fill.all (D_is_name.bindsN fun _ _ _ _ _ _ us hl => match us, hl with | [_], _ => rfl)) hr2 takesW0 rfl fx.g_is_name D_is_name.kp (ta_cons (pt_var (pv 1)) ta_nil)))))) ta_nil)))))))
def N_are_firsts : List PySem.Str := ["value"]
theorem sc_are_firsts : FnScope N_are_firsts ["value"] (defScope (top 23)) := ⟨rfl, rfl, rfl, by decide +kernel, rfl, by decide +kernel, by decide +kernel⟩
theorem ok_are_firsts (fx : Fx P K mg) {fd : FuncData} (D : FunD K "are_firsts" "are_firsts" (defArgs (top 23)) (defBody (top 23)) (defScope (top 23)) (([] : List He.Dv).map (He.Dv.v K)) (([] : List (PySem.Str × He.Dv)).map fun q => (q.1, q.2.v K)) (He.ga K "are_firsts") fd) : FnG P w K mg base 4 (He.ga K "are_firsts") fd ["value"] (spF (tcN K cs) 1 (Lib.F_are_firsts ks)) := by
  obtain ⟨fd_are_names, D_are_names⟩ := fx.d_are_names
  refine fn_tree D sc_are_firsts (by decide) fun cdv A outer s H E r => ?_
  intro X hr hp tk po
  have hK : X.K = (tcN K cs).K := rfl
  have hc : X.calm = true := rfl
  have nd : X.N.Nodup := sc_are_firsts.nd
  have hr3 : RoomG 3 X.A := hr.mono (by decide)
  exact (tss_one (ts_ret hp (pt_and hK (pt_res (tr_call ((ok_are_names fx D_are_names).mono (Nat.le_refl _)) (Fill.all (D_are_names.bindsN fun _ _ _ _ _ _ us hl => match us, hl with | [_], _ => rfl)) hr3 tk rfl fx.g_are_names D_are_names.kp (ta_cons (pt_var (pv 0)) ta_nil))) (pt_one (pt_cmp op_gtP (pt_res (tr_bui (x := "len") (bu_len hK) rfl fx.f_len boot_len (ta_cons (pt_var (pv 0)) ta_nil))) pt_int rfl)))))
def N_is_integer : List PySem.Str := ["value"]
theorem sc_is_integer : FnScope N_is_integer ["value"] (defScope (top 12)) := ⟨rfl, rfl, rfl, by decide +kernel, rfl, by decide +kernel, by decide +kernel⟩
theorem ok_is_integer (fx : Fx P K mg) {fd : FuncData} (D : FunD K "is_integer" "is_integer" (defArgs (top 12)) (defBody (top 12)) (defScope (top 12)) (([] : List He.Dv).map (He.Dv.v K)) (([] : List (PySem.Str × He.Dv)).map fun q => (q.1, q.2.v K)) (He.ga K "is_integer") fd) : FnG P w K mg base 2 (He.ga K "is_integer") fd ["value"] (spF (tcN K cs) 1 (Lib.F_is_integer ks)) := by
  refine fn_tree D sc_is_integer (by decide) fun cdv A outer s H E r => ?_
  intro X hr hp tk po
  have hK : X.K = (tcN K cs).K := rfl
  have hc : X.calm = true := rfl
  have nd : X.N.Nodup := sc_is_integer.nd
  exact (tss_one (ts_ret hp (pt_and hK (pt_isi hK (AllP.all (.cons fx.q_Weaving .nil)) (Tgt.cls (tcN K cs) (.ty "int")) (fun d b h1 h2 => kitOne_of (isiB_ok fx.is_int d b h1 h2)) rfl fx.f_isinstance (pt_var (pv 0)) (pe_bltT (x := "int") (T := "int") (by rfl) fx.f_int boot_int)) (pt_one (pt_notV hK (pt_isi hK (AllP.all (.cons fx.q_Weaving .nil)) (Tgt.cls (tcN K cs) (.ty "bool")) (fun d b h1 h2 => kitOne_of (isiB_ok fx.is_bool d b h1 h2)) rfl fx.f_isinstance (pt_var (pv 0)) (pe_bltT (x := "bool") (T := "bool") (by rfl) fx.f_bool boot_bool)))))))
def N_is_step : List PySem.Str := ["value", "many"]
theorem sc_is_step : FnScope N_is_step ["value", "many"] (defScope (top 20)) := ⟨rfl, rfl, rfl, by decide +kernel, rfl, by decide +kernel, by decide +kernel⟩
theorem ok_is_step (fx : Fx P K mg) {fd : FuncData} (D : FunD K "is_step" "is_step" (defArgs (top 20)) (defBody (top 20)) (defScope (top 20)) (([] : List He.Dv).map (He.Dv.v K)) (([] : List (PySem.Str × He.Dv)).map fun q => (q.1, q.2.v K)) (He.ga K "is_step") fd) : FnG P w K mg base 3 (He.ga K "is_step") fd ["value", "many"] (spF (tcN K cs) 2 (Lib.F_is_step ks)) := by
  obtain ⟨fd_is_integer, D_is_integer⟩ := fx.d_is_integer
  refine fn_tree D sc_is_step (by decide) fun cdv A outer s H E r => ?_
  intro X hr hp tk po
  have hK : X.K = (tcN K cs).K := rfl
  have hc : X.calm = true := rfl
  have nd : X.N.Nodup := sc_is_step.nd
  have hr2 : RoomG 2 X.A := hr.mono (by decide)
  exact (tss_one (ts_ret hp (pt_and hK (pt_res (tr_call ((ok_is_integer fx D_is_integer).mono (Nat.le_refl _)) (Fill.all (D_is_integer.bindsN fun _ _ _ _ _ _ us hl => match us, hl with | [_], _ => rfl)) hr2 tk rfl fx.g_is_integer D_is_integer.kp (ta_cons (pt_var (pv 0)) ta_nil))) (pt_one (pt_chain op_leP op_ltP pt_int (pt_var (pv 0)) (pt_var (pv 1)))))))
def N_is_event : List PySem.Str := ["value", "many", "word", "step", "letter", "number"]
theorem sc_is_event : FnScope N_is_event ["value", "many"] (defScope (top 21)) := ⟨rfl, rfl, rfl, by decide +kernel, rfl, by decide +kernel, by decide +kernel⟩
theorem ok_is_event (fx : Fx P K mg) {fd : FuncData} (D : FunD K "is_event" "is_event" (defArgs (top 21)) (defBody (top 21)) (defScope (top 21)) (([] : List He.Dv).map (He.Dv.v K)) (([] : List (PySem.Str × He.Dv)).map fun q => (q.1, q.2.v K)) (He.ga K "is_event") fd) : FnG P w K mg base 4 (He.ga K "is_event") fd ["value", "many"] (spF (tcN K cs) 2 (Lib.F_is_event ks)) := by
  obtain ⟨fd_is_integer, D_is_integer⟩ := fx.d_is_integer
  obtain ⟨fd_is_step, D_is_step⟩ := fx.d_is_step
  obtain ⟨fd_is_name, D_is_name⟩ := fx.d_is_name
  refine fn_tree D sc_is_event (by decide) fun cdv A outer s H E r => ?_
  intro X hr hp tk po
  have hK : X.K = (tcN K cs).K := rfl
  have hc : X.calm = true := rfl
  have nd : X.N.Nodup := sc_is_event.nd
  have hr2 : RoomG 2 X.A := hr.mono (by decide)
  have hr3 : RoomG 3 X.A := hr.mono (by decide)
  exact (tss_cons (ts_if (tt_w (tw_or (tt_not (tt_truth hK (pt_isi hK (AllP.all (.cons fx.q_Weaving .nil)) (Tgt.cls (tcN K cs) (.ty "tuple")) (fun d b h1 h2 => kitOne_of (isiB_ok fx.is_tuple d b h1 h2)) rfl fx.f_isinstance (pt_var (pv 0)) (pe_bltT (x := "tuple") (T := "tuple") (by rfl) fx.f_tuple boot_tuple)))) (tw_or (tt_cmp (op_eqP hK (u64 hr)) (pt_res (tr_bui (x := "len") (bu_len hK) rfl fx.f_len boot_len (ta_cons (pt_var (pv 0)) ta_nil))) pt_int rfl) (tw_or1 (tt_not (tt_truth hK (pt_isi hK (AllP.all (.cons fx.q_Weaving .nil)) (Tgt.cls (tcN K cs) (.ty "str")) (fun d b h1 h2 => kitOne_of (isiB_ok fx.is_str d b h1 h2)) rfl fx.f_isinstance (pt_ix hK (pt_var (pv 0)) pt_int (fun _ _ => rfl)) (pe_bltT (x := "str") (T := "str") (by rfl) fx.f_str boot_str)))))))) (tss_one (ts_ret hp pt_bl)) tss_nil)
    (tss_cons (ts_match (pt_var (pv 0)) (tm_seq (is := [2, 3]) (xs := ["word", "step"]) hK hc nd (.cons (.cons .nil)) rfl rfl (capq (N := N_is_event) (sc := defScope (top 21)) hp rfl rfl (by decide +kernel)) (tt_cmp (op_inP hK (u65 hr)) (pt_var (pv 2)) (pt_gref rfl fx.g_OF_STEPS (krep_tupS fx.t_OF_STEPS (strsG (by decide +kernel)))) rfl) (tss_one (ts_ret hp (pt_res (tr_call ((ok_is_step fx D_is_step).mono (Nat.le_refl _)) (Fill.all (D_is_step.bindsN fun _ _ _ _ _ _ us hl => match us, hl with | [_, _], _ => rfl)) hr3 tk rfl fx.g_is_step D_is_step.kp (ta_cons (pt_var (pv 3)) (ta_cons (pt_var (pv 1)) ta_nil)))))) (tm_seq (is := [2, 3, 4]) (xs := ["word", "step", "letter"]) hK hc nd (.cons (.cons (.cons .nil))) rfl rfl (capq (N := N_is_event) (sc := defScope (top 21)) hp rfl rfl (by decide +kernel)) (tt_cmp (op_inP hK (u65 hr)) (pt_var (pv 2)) (pt_gref rfl fx.g_OF_LETTERS (krep_tupS fx.t_OF_LETTERS (strsG (by decide +kernel)))) rfl) (tss_one (ts_ret hp (pt_and hK (pt_res (tr_call ((ok_is_step fx D_is_step).mono (Nat.le_refl _)) (Fill.all (D_is_step.bindsN fun _ _ _ _ _ _ us hl => match us, hl with | [_, _], _ => rfl)) hr3 tk rfl fx.g_is_step D_is_step.kp (ta_cons (pt_var (pv 3)) (ta_cons (pt_var (pv 1)) ta_nil)))) (pt_one (pt_res (tr_call ((ok_is_name fx D_is_name).mono (Nat.le_refl _)) (Fill.all (D_is_name.bindsN fun _ _ _ _ _ _ us hl => match us, hl with | [_], _ => rfl)) hr2 tk rfl fx.g_is_name D_is_name.kp (ta_cons (pt_var (pv 4)) ta_nil))))))) (tm_seq (is := [2, 5]) (xs := ["word", "number"]) hK hc nd (.cons (.cons .nil)) rfl rfl (capq (N := N_is_event) (sc := defScope (top 21)) hp rfl rfl (by decide +kernel)) (tt_cmp (op_eqP hK (u64 hr)) (pt_var (pv 2)) pt_str rfl) (tss_one (ts_ret hp (pt_and hK (pt_res (tr_call ((ok_is_integer fx D_is_integer).mono (Nat.le_refl _)) (Fill.all (D_is_integer.bindsN fun _ _ _ _ _ _ us hl => match us, hl with | [_], _ => rfl)) hr2 tk rfl fx.g_is_integer D_is_integer.kp (ta_cons (pt_var (pv 5)) ta_nil))) (pt_one (pt_cmp op_geP (pt_var (pv 5)) pt_int rfl))))) tm_nil))))
    (tss_one (ts_ret hp pt_bl))))
def N_Weaving___init__ : List PySem.Str := ["self", "firsts", "events", "at", "event"]
theorem sc_Weaving___init__ : FnScope N_Weaving___init__ ["self", "firsts", "events"] (defScope (inClass (top 24) 0)) := ⟨rfl, rfl, rfl, by decide +kernel, rfl, by decide +kernel, by decide +kernel⟩
theorem x2_Weaving___init__ (fx : Fx P K mg) {fd : FuncData} (D : FunD K "__init__" "Weaving.__init__" (defArgs (inClass (top 24) 0)) (defBody (inClass (top 24) 0)) (defScope (inClass (top 24) 0)) (([.adr (He.dflAt ("Weaving", some "__init__") 0)] : List He.Dv).map (He.Dv.v K)) (([] : List (PySem.Str × He.Dv)).map fun q => (q.1, q.2.v K)) (He.ma K (He.ga K "Weaving") "__init__") fd) : Fill (tcN K cs) K fd ["self", "firsts", "events"] [.tup []] := Fill.of (D.binds1 2 0 (by simp) rfl (fun _ _ _ _ _ _ _ us its h1 h2 => match us, its, h1, h2 with | [_, _], [_], _, _ => ⟨_, rfl, rfl⟩)) (fun G => (repl_cons (rep_tup0 fx.d_Weaving___init___0) repl_nil))
theorem x3_Weaving___init__ (fx : Fx P K mg) {fd : FuncData} (D : FunD K "__init__" "Weaving.__init__" (defArgs (inClass (top 24) 0)) (defBody (inClass (top 24) 0)) (defScope (inClass (top 24) 0)) (([.adr (He.dflAt ("Weaving", some "__init__") 0)] : List He.Dv).map (He.Dv.v K)) (([] : List (PySem.Str × He.Dv)).map fun q => (q.1, q.2.v K)) (He.ma K (He.ga K "Weaving") "__init__") fd) : Fill (tcN K cs) K fd ["self", "firsts", "events"] [] := Fill.of (D.binds1 3 1 (by simp) rfl (fun _ _ _ _ _ _ _ us its h1 h2 => match us, its, h1, h2 with | [_, _, _], [_], _, _ => ⟨_, rfl, rfl⟩)) (fun G => repl_nil)
theorem ok_Weaving___init__ (fx : Fx P K mg) {fd : FuncData} (D : FunD K "__init__" "Weaving.__init__" (defArgs (inClass (top 24) 0)) (defBody (inClass (top 24) 0)) (defScope (inClass (top 24) 0)) (([.adr (He.dflAt ("Weaving", some "__init__") 0)] : List He.Dv).map (He.Dv.v K)) (([] : List (PySem.Str × He.Dv)).map fun q => (q.1, q.2.v K)) (He.ma K (He.ga K "Weaving") "__init__") fd) : FnG P w K mg base 5 (He.ma K (He.ga K "Weaving") "__init__") fd ["self", "firsts", "events"] (spF (tcN K cs) 3 (Lib.F_Weaving___init__ ks)) := by
  obtain ⟨fd_are_firsts, D_are_firsts⟩ := fx.d_are_firsts
  obtain ⟨fd_is_sequence, D_is_sequence⟩ := fx.d_is_sequence
  obtain ⟨fd_is_event, D_is_event⟩ := fx.d_is_event
  obtain ⟨cd_InvalidEvent, xc_InvalidEvent⟩ := fx.xc_InvalidEvent.x
  refine fn_tree D sc_Weaving___init__ (by decide) fun cdv A outer s H E r => ?_
  intro X hr hp tk po
  have hK : X.K = (tcN K cs).K := rfl
  have hc : X.calm = true := rfl
  have nd : X.N.Nodup := sc_Weaving___init__.nd
  have hr2 : RoomG 2 X.A := hr.mono (by decide)
  have hr4 : RoomG 4 X.A := hr.mono (by decide)
  exact (tss_cons (ts_if (tt_w (tw_or (tt_not (tt_truth hK (pt_res (tr_call ((ok_are_firsts fx D_are_firsts).mono (Nat.le_refl _)) (Fill.all (D_are_firsts.bindsN fun _ _ _ _ _ _ us hl => match us, hl with | [_], _ => rfl)) hr4 tk rfl fx.g_are_firsts D_are_firsts.kp (ta_cons (pt_var (pv 1)) ta_nil))))) (tw_or1 (tt_not (tt_truth hK (pt_res (tr_call ((ok_is_sequence fx D_is_sequence).mono (Nat.le_refl _)) (Fill.all (D_is_sequence.bindsN fun _ _ _ _ _ _ us hl => match us, hl with | [_], _ => rfl)) hr2 tk rfl fx.g_is_sequence D_is_sequence.kp (ta_cons (pt_var (pv 2)) ta_nil)))))))) (tss_one (ts_raise xc_InvalidEvent fx.xc_InvalidEvent.k1 fx.xc_InvalidEvent.k2 fx.xc_InvalidEvent.k3 fx.xc_InvalidEvent.k4 (hr.mono (by omega)) hc tk rfl fx.g_InvalidEvent pt_int)) tss_nil)
    (tss_cons (ts_for (xs := (Lib.eb_Weaving___init___1 ks)) po hc (ti_enumS hK rfl fx.f_enumerate (ta_cons (pt_var (pv 2)) ta_nil)) (tg_tupL (n := 2) hK hc (tgs_cons (tg_name (i := 3) (pg_name (i := 3) nd rfl locOf) (npin hp)) (tgs_cons (tg_name (i := 4) (pg_name (i := 4) nd rfl locOf) (npin hp)) tgs_nil))) (tss_one (ts_if (tt_not (tt_truth hK (pt_res (tr_call ((ok_is_event fx D_is_event).mono (Nat.le_refl _)) (Fill.all (D_is_event.bindsN fun _ _ _ _ _ _ us hl => match us, hl with | [_, _], _ => rfl)) hr4 tk rfl fx.g_is_event D_is_event.kp (ta_cons (pt_var (pv 4)) (ta_cons (pt_res (tr_bui (x := "len") (bu_len hK) rfl fx.f_len boot_len (ta_cons (pt_var (pv 1)) ta_nil))) ta_nil)))))) (tss_one (ts_raise xc_InvalidEvent fx.xc_InvalidEvent.k1 fx.xc_InvalidEvent.k2 fx.xc_InvalidEvent.k3 fx.xc_InvalidEvent.k4 (hr.mono (by omega)) hc tk rfl fx.g_InvalidEvent (pt_var (pv 3)))) tss_nil)))
    (tss_cons (ts_fld (k := 6) fx.c_Weaving fx.n_Weaving__firsts (pv 0) (pt_res (tr_buiT (x := "tuple") (bu_tuple hK) rfl fx.f_tuple boot_tuple (ta_cons (pt_var (pv 1)) ta_nil))))
    (tss_one (ts_fld (k := 6) fx.c_Weaving fx.n_Weaving__events (pv 0) (pt_res (tr_buiT (x := "tuple") (bu_tuple hK) rfl fx.f_tuple boot_tuple (ta_cons (pt_var (pv 2)) ta_nil))))))))
def N_Weaving___add__ : List PySem.Str := ["self", "other"]
theorem sc_Weaving___add__ : FnScope N_Weaving___add__ ["self", "other"] (defScope (inClass (top 24) 7)) := ⟨rfl, rfl, rfl, by decide +kernel, rfl, by decide +kernel, by decide +kernel⟩
theorem ok_Weaving___add__ (fx : Fx P K mg) {fd : FuncData} (D : FunD K "__add__" "Weaving.__add__" (defArgs (inClass (top 24) 7)) (defBody (inClass (top 24) 7)) (defScope (inClass (top 24) 7)) (([] : List He.Dv).map (He.Dv.v K)) (([] : List (PySem.Str × He.Dv)).map fun q => (q.1, q.2.v K)) (He.ma K (He.ga K "Weaving") "__add__") fd) : FnG P w K mg base 7 (He.ma K (He.ga K "Weaving") "__add__") fd ["self", "other"] (spF (tcN K cs) 2 (Lib.F_Weaving___add__ ks)) := by
  obtain ⟨fd_Weaving___init__, D_Weaving___init__⟩ := fx.d_Weaving___init__
  refine fn_tree D sc_Weaving___add__ (by decide) fun cdv A outer s H E r => ?_
  intro X hr hp tk po
  have hK : X.K = (tcN K cs).K := rfl
  have hc : X.calm = true := rfl
  have nd : X.N.Nodup := sc_Weaving___add__.nd
  have hr6 : RoomG 6 X.A := hr.mono (by decide)
  exact (tss_cons (ts_if (tt_not (tt_truth hK (pt_isi hK (AllP.all (.cons fx.q_Weaving .nil)) (Tgt.cls (tcN K cs) (.own 6)) (fun d b h1 h2 => kitOne_of (isiB_ok fx.is_Weaving d b h1 h2)) rfl fx.f_isinstance (pt_var (pv 1)) (pe_glob (v := .ref (He.ga K "Weaving")) (u := .ref (He.ga K "Weaving")) (by rfl) fx.g_Weaving rfl)))) (tss_one ts_bad) tss_nil)
    (tss_cons (ts_if (tt_cmp (op_neP hK (u64 hr)) (pt_fl (flAll (.cons (fun _ => ⟨fx.c_Weaving, fx.n_Weaving__firsts⟩) (.cons (fun z => absurd z (by decide)) .nil))) (pt_var (pv 0))) (pt_fl (flAll (.cons (fun _ => ⟨fx.c_Weaving, fx.n_Weaving__firsts⟩) (.cons (fun z => absurd z (by decide)) .nil))) (pt_var (pv 1))) rfl) (tss_one (ts_raise0 (XB.value).facts.1 (x0All fx.x0_Mismatch).q (x0All fx.x0_Mismatch).k1 (x0All fx.x0_Mismatch).k2 (x0All fx.x0_Mismatch).k3 hc tk rfl fx.g_Mismatch)) tss_nil)
    (tss_one (ts_ret hp (pt_res (tr_make fx.k_Weaving ((ok_Weaving___init__ fx D_Weaving___init__).mono (Nat.le_refl _)) (x3_Weaving___init__ fx D_Weaving___init__) hr6 tk rfl fx.g_Weaving (ta_cons (pt_fl (flAll (.cons (fun _ => ⟨fx.c_Weaving, fx.n_Weaving__firsts⟩) (.cons (fun z => absurd z (by decide)) .nil))) (pt_var (pv 0))) (ta_cons (pt_res (tr_bin (op_addA hK) (pt_fl (flAll (.cons (fun _ => ⟨fx.c_Weaving, fx.n_Weaving__events⟩) .nil)) (pt_var (pv 0))) (pt_fl (flAll (.cons (fun _ => ⟨fx.c_Weaving, fx.n_Weaving__events⟩) .nil)) (pt_var (pv 1))))) ta_nil))))))))
def N__law_tried : List PySem.Str := ["_law_p", "_law_q", "_law_found", "e"]
theorem sc__law_tried : FnScope N__law_tried ["_law_p", "_law_q"] (defScope (top 34)) := ⟨rfl, rfl, rfl, by decide +kernel, rfl, by decide +kernel, by decide +kernel⟩
theorem ok__law_tried (fx : Fx P K mg) {fd : FuncData} (D : FunD K "_law_tried" "_law_tried" (defArgs (top 34)) (defBody (top 34)) (defScope (top 34)) (([] : List He.Dv).map (He.Dv.v K)) (([] : List (PySem.Str × He.Dv)).map fun q => (q.1, q.2.v K)) (He.ga K "_law_tried") fd) : FnG P w K mg base 8 (He.ga K "_law_tried") fd ["_law_p", "_law_q"] (spF (tcN K cs) 2 (Lib.F_h_tried ks)) := by
  obtain ⟨fd_Weaving___add__, D_Weaving___add__⟩ := fx.d_Weaving___add__
  refine fn_tree D sc__law_tried (by decide) fun cdv A outer s H E r => ?_
  intro X hr hp tk po
  have hK : X.K = (tcN K cs).K := rfl
  have hc : X.calm = true := rfl
  have nd : X.N.Nodup := sc__law_tried.nd
  have hr7 : RoomG 7 X.A := hr.mono (by decide)
  exact (tss_cons (ts_set (i := 2) nd rfl locOf (npin hp) pt_str)
    (tss_cons (ts_try (i := 3) (kx := 28) rfl rfl nd rfl rfl ⟨rfl, by decide +kernel, .inl fx.g_Mismatch⟩ tk hp rfl rfl (exmB_ok fx.em_28_23_28) (fun W' pn' xe tk po => (tss_one (ts_set (i := 2) nd rfl locOf (npin hp) (pt_fl (flAll (.cons (fun _ => ⟨fx.c_Weaving, fx.n_Weaving__events⟩) .nil)) (pt_res (tr_binOwn (own_of fx.m_Weaving____add__) fx.sf_Weaving ((ok_Weaving___add__ fx D_Weaving___add__).mono (Nat.le_refl _)) (D_Weaving___add__.bindsN fun _ _ _ _ _ _ us hl => match us, hl with | [_, _], _ => rfl) hr7 tk (pt_var (pv 0)) (pt_var (pv 1)))))))) (fun a oe cls d pn' y r' hz hf hx hm hp hkk => (tss_one (ts_set (i := 2) nd rfl locOf (npin hp) (pt_if (tt_w (tw_and (tt_truth hK (pt_xi (ks := [28, 23]) hz hf hx hm hkk (xiB_ok fx.xi_28_23) (Tgt.cls (tcN K cs) (.own 19)) (kitB_ok fx.kt_28_23_StepError) rfl fx.f_isinstance (pv 3) (pe_glob (v := .ref (He.ga K "StepError")) (u := .ref (He.ga K "StepError")) (by rfl) fx.g_StepError rfl))) (tw_and1 (tt_not (tt_truth hK (pt_xi (ks := [28, 23]) hz hf hx hm hkk (xiB_ok fx.xi_28_23) (Tgt.cls (tcN K cs) (.own 25)) (kitB_ok fx.kt_28_23_Refused) rfl fx.f_isinstance (pv 3) (pe_glob (v := .ref (He.ga K "Refused")) (u := .ref (He.ga K "Refused")) (by rfl) fx.g_Refused rfl))))))) pt_str pt_str)))))
    (tss_one (ts_ret hp (pt_var (pv 2))))))
def N_Weaving_alone : List PySem.Str := ["self", "step", "found", "event"]
theorem sc_Weaving_alone : FnScope N_Weaving_alone ["self", "step"] (defScope (inClass (top 24) 3)) := ⟨rfl, rfl, rfl, by decide +kernel, rfl, by decide +kernel, by decide +kernel⟩
theorem ok_Weaving_alone (fx : Fx P K mg) {fd : FuncData} (D : FunD K "alone" "Weaving.alone" (defArgs (inClass (top 24) 3)) (defBody (inClass (top 24) 3)) (defScope (inClass (top 24) 3)) (([] : List He.Dv).map (He.Dv.v K)) (([] : List (PySem.Str × He.Dv)).map fun q => (q.1, q.2.v K)) (He.ma K (He.ga K "Weaving") "alone") fd) : FnG P w K mg base 7 (He.ma K (He.ga K "Weaving") "alone") fd ["self", "step"] (spF (tcN K cs) 2 (Lib.F_Weaving_alone ks)) := by
  obtain ⟨fd_Weaving___init__, D_Weaving___init__⟩ := fx.d_Weaving___init__
  refine fn_tree D sc_Weaving_alone (by decide) fun cdv A outer s H E r => ?_
  intro X hr hp tk po
  have hK : X.K = (tcN K cs).K := rfl
  have hc : X.calm = true := rfl
  have nd : X.N.Nodup := sc_Weaving_alone.nd
  have hr6 : RoomG 6 X.A := hr.mono (by decide)
  exact (tss_cons (ts_own (i := 2) nd rfl locOf (npin hp) (pf_lst ta_nil))
    (tss_cons (ts_for (xs := (Lib.eb_Weaving_alone_1 ks)) po hc (ti_any hp hK (pt_fl (flAll (.cons (fun _ => ⟨fx.c_Weaving, fx.n_Weaving__events⟩) .nil)) (pt_var (pv 0)))) (tg_name (i := 3) (pg_name (i := 3) nd rfl locOf) (npin hp)) (tss_one (ts_if (tt_cmp (op_eqP hK (u64 hr)) (pt_ix hK (pt_var (pv 3)) pt_int (fun _ _ => rfl)) pt_str rfl) (tss_one (ts_expr (pt_mut (T := "list") (id := "list.append") (name := "append") hK PySem.F.plainAttrs_list PySem.F.slot_list_append PySem.F.type_list_append mu_append (pv 2) (ta_cons (pt_var (pv 3)) ta_nil)))) (tss_one (ts_if (tt_cmp (op_eqP hK (u64 hr)) (pt_ix hK (pt_var (pv 3)) pt_int (fun _ _ => rfl)) (pt_var (pv 1)) rfl) (tss_one (ts_expr (pt_mut (T := "list") (id := "list.append") (name := "append") hK PySem.F.plainAttrs_list PySem.F.slot_list_append PySem.F.type_list_append mu_append (pv 2) (ta_cons (pt_tup (ta_cons (pt_ix hK (pt_var (pv 3)) pt_int (fun _ _ => rfl)) (ta_cons pt_int (ta_star hK (pt_res (tr_sl hK (pt_var (pv 3)) (to_so pt_int) to_no)) ta_nil)))) ta_nil)))) tss_nil)))))
    (tss_one (ts_ret hp (pt_res (tr_make fx.k_Weaving ((ok_Weaving___init__ fx D_Weaving___init__).mono (Nat.le_refl _)) (x3_Weaving___init__ fx D_Weaving___init__) hr6 tk rfl fx.g_Weaving (ta_cons (pt_res (tr_sl hK (pt_fl (flAll (.cons (fun _ => ⟨fx.c_Weaving, fx.n_Weaving__firsts⟩) (.cons (fun z => absurd z (by decide)) .nil))) (pt_var (pv 0))) (to_so (pt_var (pv 1))) (to_so (pt_res (tr_bin (op_addA hK) (pt_var (pv 1)) pt_int))))) (ta_cons (pt_frz hp (pt_var (pv 2))) ta_nil))))))))
def N_Weaving___eq__ : List PySem.Str := ["self", "other"]
theorem sc_Weaving___eq__ : FnScope N_Weaving___eq__ ["self", "other"] (defScope (inClass (top 24) 8)) := ⟨rfl, rfl, rfl, by decide +kernel, rfl, by decide +kernel, by decide +kernel⟩
theorem ok_Weaving___eq__ (fx : Fx P K mg) {fd : FuncData} (D : FunD K "__eq__" "Weaving.__eq__" (defArgs (inClass (top 24) 8)) (defBody (inClass (top 24) 8)) (defScope (inClass (top 24) 8)) (([] : List He.Dv).map (He.Dv.v K)) (([] : List (PySem.Str × He.Dv)).map fun q => (q.1, q.2.v K)) (He.ma K (He.ga K "Weaving") "__eq__") fd) : FnG P w K mg base 2 (He.ma K (He.ga K "Weaving") "__eq__") fd ["self", "other"] (spF (tcN K cs) 2 (Lib.F_Weaving___eq__ ks)) := by
  refine fn_tree D sc_Weaving___eq__ (by decide) fun cdv A outer s H E r => ?_
  intro X hr hp tk po
  have hK : X.K = (tcN K cs).K := rfl
  have hc : X.calm = true := rfl
  have nd : X.N.Nodup := sc_Weaving___eq__.nd
  exact (tss_one (ts_ret hp (pt_and hK (pt_isi hK (AllP.all (.cons fx.q_Weaving .nil)) (Tgt.cls (tcN K cs) (.own 6)) (fun d b h1 h2 => kitOne_of (isiB_ok fx.is_Weaving d b h1 h2)) rfl fx.f_isinstance (pt_var (pv 1)) (pe_glob (v := .ref (He.ga K "Weaving")) (u := .ref (He.ga K "Weaving")) (by rfl) fx.g_Weaving rfl)) (pt_one (pt_cmp (op_eqP hK (u64 hr)) (pt_tup (ta_cons (pt_fl (flAll (.cons (fun _ => ⟨fx.c_Weaving, fx.n_Weaving__firsts⟩) (.cons (fun z => absurd z (by decide)) .nil))) (pt_var (pv 0))) (ta_cons (pt_fl (flAll (.cons (fun _ => ⟨fx.c_Weaving, fx.n_Weaving__events⟩) .nil)) (pt_var (pv 0))) ta_nil))) (pt_tup (ta_cons (pt_fl (flAll (.cons (fun _ => ⟨fx.c_Weaving, fx.n_Weaving__firsts⟩) (.cons (fun z => absurd z (by decide)) .nil))) (pt_var (pv 1))) (ta_cons (pt_fl (flAll (.cons (fun _ => ⟨fx.c_Weaving, fx.n_Weaving__events⟩) .nil)) (pt_var (pv 1))) ta_nil))) rfl)))))
def N_Weaving___getitem__ : List PySem.Str := ["self", "at"]
theorem sc_Weaving___getitem__ : FnScope N_Weaving___getitem__ ["self", "at"] (defScope (inClass (top 24) 5)) := ⟨rfl, rfl, rfl, by decide +kernel, rfl, by decide +kernel, by decide +kernel⟩
theorem ok_Weaving___getitem__ (fx : Fx P K mg) {fd : FuncData} (D : FunD K "__getitem__" "Weaving.__getitem__" (defArgs (inClass (top 24) 5)) (defBody (inClass (top 24) 5)) (defScope (inClass (top 24) 5)) (([] : List He.Dv).map (He.Dv.v K)) (([] : List (PySem.Str × He.Dv)).map fun q => (q.1, q.2.v K)) (He.ma K (He.ga K "Weaving") "__getitem__") fd) : FnG P w K mg base 7 (He.ma K (He.ga K "Weaving") "__getitem__") fd ["self", "at"] (spF (tcN K cs) 2 (Lib.F_Weaving___getitem___b ks)) := by
  obtain ⟨fd_Weaving___init__, D_Weaving___init__⟩ := fx.d_Weaving___init__
  obtain ⟨cd_NoEvent, xc_NoEvent⟩ := fx.xc_NoEvent.x
  refine fn_tree D sc_Weaving___getitem__ (by decide) fun cdv A outer s H E r => ?_
  intro X hr hp tk po
  have hK : X.K = (tcN K cs).K := rfl
  have hc : X.calm = true := rfl
  have nd : X.N.Nodup := sc_Weaving___getitem__.nd
  have hr6 : RoomG 6 X.A := hr.mono (by decide)
  exact (tss_cons (ts_if (tt_not (tt_truth hK (pt_isX (fun b h => by cases h; exact slcInt) hK (AllP.all (.cons fx.q_Weaving .nil)) (Tgt.cls (tcN K cs) (.ty "int")) (fun d b h1 h2 => kitOne_of (isiB_ok fx.is_int d b h1 h2)) rfl fx.f_isinstance (pt_var (pv 1)) (pe_bltT (x := "int") (T := "int") (by rfl) fx.f_int boot_int)))) (tss_one (ts_ret hp (pt_res (tr_make fx.k_Weaving ((ok_Weaving___init__ fx D_Weaving___init__).mono (Nat.le_refl _)) (x3_Weaving___init__ fx D_Weaving___init__) hr6 tk rfl fx.g_Weaving (ta_cons (pt_fl (flAll (.cons (fun _ => ⟨fx.c_Weaving, fx.n_Weaving__firsts⟩) (.cons (fun z => absurd z (by decide)) .nil))) (pt_var (pv 0))) (ta_cons (pt_res (tr_ixS hK (pt_fl (flAll (.cons (fun _ => ⟨fx.c_Weaving, fx.n_Weaving__events⟩) .nil)) (pt_var (pv 0))) (pt_var (pv 1)) (fun _ _ => rfl))) ta_nil)))))) tss_nil)
    (tss_cons (ts_if (tt_not (tt_chain op_leP op_ltP pt_int (pt_var (pv 1)) (pt_res (tr_bui (x := "len") (bu_len hK) rfl fx.f_len boot_len (ta_cons (pt_fl (flAll (.cons (fun _ => ⟨fx.c_Weaving, fx.n_Weaving__events⟩) .nil)) (pt_var (pv 0))) ta_nil))))) (tss_one (ts_raise xc_NoEvent fx.xc_NoEvent.k1 fx.xc_NoEvent.k2 fx.xc_NoEvent.k3 fx.xc_NoEvent.k4 (hr.mono (by omega)) hc tk rfl fx.g_NoEvent (pt_var (pv 1)))) tss_nil)
    (tss_one (ts_ret hp (pt_res (tr_ixS hK (pt_fl (flAll (.cons (fun _ => ⟨fx.c_Weaving, fx.n_Weaving__events⟩) .nil)) (pt_var (pv 0))) (pt_var (pv 1)) (fun _ _ => rfl)))))))
def N_law : List PySem.Str := ["_law_script", "_law_deal_here", "_law_turn", "_law_firsts", "_law_events", "_law_others", "_law_more", "_law_k", "_law_p", "_law_q", "_law_due", "_law_step", "_law_own", "_law_event_here", "_law_alone", "_law_made"]
theorem sc_law : FnScope N_law ["_law_script"] (defScope (top 35)) := ⟨rfl, rfl, rfl, by decide +kernel, rfl, by decide +kernel, by decide +kernel⟩
theorem ok_law (fx : Fx P K mg) {fd : FuncData} (D : FunD K "law" "law" (defArgs (top 35)) (defBody (top 35)) (defScope (top 35)) (([] : List He.Dv).map (He.Dv.v K)) (([] : List (PySem.Str × He.Dv)).map fun q => (q.1, q.2.v K)) (He.ga K "law") fd) : FnG P w K mg base 9 (He.ga K "law") fd ["_law_script"] (spF (tcN K cs) 1 F_law) := by
  obtain ⟨fd__law_deal, D__law_deal⟩ := fx.d__law_deal
  obtain ⟨fd__law_weaving, D__law_weaving⟩ := fx.d__law_weaving
  obtain ⟨fd__law_draw, D__law_draw⟩ := fx.d__law_draw
  obtain ⟨fd__law_event, D__law_event⟩ := fx.d__law_event
  obtain ⟨fd_Weaving___init__, D_Weaving___init__⟩ := fx.d_Weaving___init__
  obtain ⟨fd__law_tried, D__law_tried⟩ := fx.d__law_tried
  obtain ⟨fd_Weaving_alone, D_Weaving_alone⟩ := fx.d_Weaving_alone
  obtain ⟨fd_Weaving___eq__, D_Weaving___eq__⟩ := fx.d_Weaving___eq__
  obtain ⟨fd_Weaving___add__, D_Weaving___add__⟩ := fx.d_Weaving___add__
  obtain ⟨fd_Weaving___getitem__, D_Weaving___getitem__⟩ := fx.d_Weaving___getitem__
  refine fn_tree D sc_law (by decide) fun cdv A outer s H E r => ?_
  intro X hr hp tk po
  have hK : X.K = (tcN K cs).K := rfl
  have hc : X.calm = true := rfl
  have nd : X.N.Nodup := sc_law.nd
  have hr2 : RoomG 2 X.A := hr.mono (by decide)
  have hr3 : RoomG 3 X.A := hr.mono (by decide)
  have hr4 : RoomG 4 X.A := hr.mono (by decide)
  have hr5 : RoomG 5 X.A := hr.mono (by decide)
  have hr6 : RoomG 6 X.A := hr.mono (by decide)
  have hr7 : RoomG 7 X.A := hr.mono (by decide)
  have hr8 : RoomG 8 X.A := hr.mono (by decide)
  exact (tss_cons (ts_own (i := 1) nd rfl locOf (npin hp) (pf_res (tr_call ((ok__law_deal fx D__law_deal).mono (Nat.le_refl _)) (Fill.all (D__law_deal.bindsN fun _ _ _ _ _ _ us hl => match us, hl with | [_, _], _ => rfl)) hr2 tk rfl fx.g__law_deal D__law_deal.kp (ta_cons (pt_var (pv 0)) (ta_cons pt_int ta_nil)))))
    (tss_cons (ts_for (xs := eb_law_18) po hc (ti_range1 rfl fx.f_range (ta_cons pt_int ta_nil)) (tg_name (i := 2) (pg_name (i := 2) nd rfl locOf) (npin hp)) (tss_cons (ts_asg (pt_res (tr_call ((ok__law_weaving fx D__law_weaving).mono (Nat.le_refl _)) (Fill.all (D__law_weaving.bindsN fun _ _ _ _ _ _ us hl => match us, hl with | [_, _], _ => rfl)) hr5 tk rfl fx.g__law_weaving D__law_weaving.kp (ta_cons (pt_var (pv 1)) (ta_cons pt_int ta_nil)))) (tg_tupL (n := 2) hK hc (tgs_cons (tg_name (i := 3) (pg_name (i := 3) nd rfl locOf) (npin hp)) (tgs_cons (tg_name (i := 4) (pg_name (i := 4) nd rfl locOf) (npin hp)) tgs_nil))))
    (tss_cons (ts_asg (pt_res (tr_call ((ok__law_weaving fx D__law_weaving).mono (Nat.le_refl _)) (Fill.all (D__law_weaving.bindsN fun _ _ _ _ _ _ us hl => match us, hl with | [_, _], _ => rfl)) hr5 tk rfl fx.g__law_weaving D__law_weaving.kp (ta_cons (pt_var (pv 1)) (ta_cons pt_int ta_nil)))) (tg_tupL (n := 2) hK hc (tgs_cons (tg_name (i := 5) (pg_name (i := 5) nd rfl locOf) (npin hp)) (tgs_cons (tg_name (i := 6) (pg_name (i := 6) nd rfl locOf) (npin hp)) tgs_nil))))
    (tss_cons (ts_if (tt_cmp (op_eqP hK (u64 hr)) (pt_res (tr_call ((ok__law_draw fx D__law_draw).mono (Nat.le_refl _)) (Fill.all (D__law_draw.bindsN fun _ _ _ _ _ _ us hl => match us, hl with | [_, _], _ => rfl)) hr2 tk rfl fx.g__law_draw D__law_draw.kp (ta_cons (pt_var (pv 1)) (ta_cons pt_int ta_nil)))) pt_int rfl) (tss_cons (ts_set (i := 5) nd rfl locOf (npin hp) (pt_res (tr_buiT (x := "list") (bu_list hK) rfl fx.f_list boot_list (ta_cons (pt_var (pv 3)) ta_nil))))
    (tss_one (ts_setLc (i := 6) (own := [("_law_k", 7)]) (us := [7]) hc nd rfl rfl (npin hp) rfl (npins hp) subl (ti_range1 rfl fx.f_range (ta_cons (pt_res (tr_call ((ok__law_draw fx D__law_draw).mono (Nat.le_refl _)) (Fill.all (D__law_draw.bindsN fun _ _ _ _ _ _ us hl => match us, hl with | [_, _], _ => rfl)) hr2 tk rfl fx.g__law_draw D__law_draw.kp (ta_cons (pt_var (pv 1)) (ta_cons pt_int ta_nil)))) ta_nil)) (blkOk_by (by kernel_rfl)) (fun s H C cl fp => (tg_name (i := 7) (pg_name (i := 7) nd rfl locOf) (npin hp))) (fun s H C cl fp => tts_nil) (fun s H C cl fp => (pt_res (tr_call ((ok__law_event fx D__law_event).mono (Nat.le_refl _)) (Fill.all (D__law_event.bindsN fun _ _ _ _ _ _ us hl => match us, hl with | [_, _, _], _ => rfl)) hr4 takesW0 rfl fx.g__law_event D__law_event.kp (ta_cons (pt_var (pv 1)) (ta_cons (pt_res (tr_bui (x := "len") (bu_len hK) rfl fx.f_len boot_len (ta_cons (pt_var (pv 3)) ta_nil))) (ta_cons (pt_lst (ta_cons pt_str (ta_cons pt_str ta_nil))) ta_nil))))))))) tss_nil)
    (tss_cons (ts_par (i := 8) (j := 9) hc nd rfl rfl (by decide) rfl rfl (npin hp) (npin hp) (tb_cons (tr_tree (pt_res (tr_make fx.k_Weaving ((ok_Weaving___init__ fx D_Weaving___init__).mono (Nat.le_refl _)) (x3_Weaving___init__ fx D_Weaving___init__) hr6 tk rfl fx.g_Weaving (ta_cons (pt_var (pv 3)) (ta_cons (pt_var (pv 4)) ta_nil))))) (tb_cons (tr_tree (pt_res (tr_make fx.k_Weaving ((ok_Weaving___init__ fx D_Weaving___init__).mono (Nat.le_refl _)) (x3_Weaving___init__ fx D_Weaving___init__) hr6 tk rfl fx.g_Weaving (ta_cons (pt_var (pv 5)) (ta_cons (pt_var (pv 6)) ta_nil))))) tb_nil)))
    (tss_cons (ts_set (i := 10) nd rfl locOf (npin hp) (pt_if (tt_cmp (op_eqP hK (u64 hr)) (pt_var (pv 3)) (pt_var (pv 5)) rfl) (pt_res (tr_buiT (x := "tuple") (bu_tuple hK) rfl fx.f_tuple boot_tuple (ta_cons (pt_res (tr_bin (op_addA hK) (pt_var (pv 4)) (pt_var (pv 6)))) ta_nil))) pt_str))
    (tss_cons (ts_if (tt_w (tw_or (tt_cmp (op_neP hK (u64 hr)) (pt_res (tr_call ((ok__law_tried fx D__law_tried).mono (Nat.le_refl _)) (Fill.all (D__law_tried.bindsN fun _ _ _ _ _ _ us hl => match us, hl with | [_, _], _ => rfl)) hr8 tk rfl fx.g__law_tried D__law_tried.kp (ta_cons (pt_var (pv 8)) (ta_cons (pt_var (pv 9)) ta_nil)))) (pt_var (pv 10)) rfl) (tw_or (tt_cmp (op_neP hK (u64 hr)) (pt_fl (flAll (.cons (fun _ => ⟨fx.c_Weaving, fx.n_Weaving__events⟩) .nil)) (pt_var (pv 8))) (pt_res (tr_buiT (x := "tuple") (bu_tuple hK) rfl fx.f_tuple boot_tuple (ta_cons (pt_var (pv 4)) ta_nil))) rfl) (tw_or1 (tt_cmp (op_neP hK (u64 hr)) (pt_fl (flAll (.cons (fun _ => ⟨fx.c_Weaving, fx.n_Weaving__events⟩) .nil)) (pt_var (pv 9))) (pt_res (tr_buiT (x := "tuple") (bu_tuple hK) rfl fx.f_tuple boot_tuple (ta_cons (pt_var (pv 6)) ta_nil))) rfl))))) (tss_one (ts_ret hp pt_bl)) tss_nil)
    (tss_cons (ts_for (xs := eb_law_5) po hc (ti_range1 rfl fx.f_range (ta_cons (pt_res (tr_bui (x := "len") (bu_len hK) rfl fx.f_len boot_len (ta_cons (pt_var (pv 3)) ta_nil))) ta_nil)) (tg_name (i := 11) (pg_name (i := 11) nd rfl locOf) (npin hp)) (tss_cons (ts_setLc (i := 12) (own := [("_law_event_here", 13)]) (us := [13]) hc nd rfl rfl (npin hp) rfl (npins hp) subl (ti_any hp hK (pt_var (pv 4))) (blkOk_by (by kernel_rfl)) (fun s H C cl fp => (tg_name (i := 13) (pg_name (i := 13) nd rfl locOf) (npin hp))) (fun s H C cl fp => (tts_one (tt_w (tw_or (tt_cmp (op_eqP hK (u64 hr)) (pt_ix hK (pt_var (pv 13)) pt_int (fun _ _ => rfl)) pt_str rfl) (tw_or1 (tt_cmp (op_eqP hK (u64 hr)) (pt_ix hK (pt_var (pv 13)) pt_int (fun _ _ => rfl)) (pt_var (pv 11)) rfl)))))) (fun s H C cl fp => (pt_var (pv 13))))
    (tss_cons (ts_setLc (i := 12) (own := [("_law_event_here", 13)]) (us := [13]) hc nd rfl rfl (npin hp) rfl (npins hp) subl (ti_any hp hK (pt_var (pv 12))) (blkOk_by (by kernel_rfl)) (fun s H C cl fp => (tg_name (i := 13) (pg_name (i := 13) nd rfl locOf) (npin hp))) (fun s H C cl fp => tts_nil) (fun s H C cl fp => (pt_if (tt_cmp (op_eqP hK (u64 hr)) (pt_ix hK (pt_var (pv 13)) pt_int (fun _ _ => rfl)) pt_str rfl) (pt_var (pv 13)) (pt_res (tr_bin (op_addA hK) (pt_tup (ta_cons (pt_ix hK (pt_var (pv 13)) pt_int (fun _ _ => rfl)) (ta_cons pt_int ta_nil))) (pt_res (tr_sl hK (pt_var (pv 13)) (to_so pt_int) to_no)))))))
    (tss_cons (ts_set (i := 14) nd rfl locOf (npin hp) (pt_res (tr_methP (pt_var (pv 8)) fx.c_Weaving fx.m_Weaving__alone ((ok_Weaving_alone fx D_Weaving_alone).mono (Nat.le_refl _)) (Fill.all (D_Weaving_alone.bindsN fun _ _ _ _ _ _ us hl => match us, hl with | [_, _], _ => rfl)) hr7 tk (ta_cons (pt_var (pv 11)) ta_nil))))
    (tss_one (ts_if (tt_w (tw_or (tt_cmp (op_neP hK (u64 hr)) (pt_fl (flAll (.cons (fun _ => ⟨fx.c_Weaving, fx.n_Weaving__firsts⟩) (.cons (fun z => absurd z (by decide)) .nil))) (pt_var (pv 14))) (pt_tup (ta_cons (pt_ix hK (pt_var (pv 3)) (pt_var (pv 11)) (fun _ _ => rfl)) ta_nil)) rfl) (tw_or (tt_cmp (op_neP hK (u64 hr)) (pt_fl (flAll (.cons (fun _ => ⟨fx.c_Weaving, fx.n_Weaving__events⟩) .nil)) (pt_var (pv 14))) (pt_res (tr_buiT (x := "tuple") (bu_tuple hK) rfl fx.f_tuple boot_tuple (ta_cons (pt_var (pv 12)) ta_nil))) rfl) (tw_or1 (tt_neOwn (own_of fx.m_Weaving____eq__) fx.ne_Weaving fx.o_Weaving ((ok_Weaving___eq__ fx D_Weaving___eq__).mono (Nat.le_refl _)) (D_Weaving___eq__.bindsN fun _ _ _ _ _ _ us hl => match us, hl with | [_, _], _ => rfl) hr3 tk (pt_var (pv 14)) (pt_res (tr_methP (pt_var (pv 8)) fx.c_Weaving fx.m_Weaving__alone ((ok_Weaving_alone fx D_Weaving_alone).mono (Nat.le_refl _)) (Fill.all (D_Weaving_alone.bindsN fun _ _ _ _ _ _ us hl => match us, hl with | [_, _], _ => rfl)) hr7 tk (ta_cons (pt_var (pv 11)) ta_nil)))))))) (tss_one (ts_ret hp pt_bl)) tss_nil))))))
    (tss_one (ts_if (tt_cmp (op_eqP hK (u64 hr)) (pt_var (pv 3)) (pt_var (pv 5)) rfl) (tss_cons (ts_set (i := 15) nd rfl locOf (npin hp) (pt_var (pv 8)))
    (tss_cons (ts_augOwn (i := 15) (own_of fx.m_Weaving____add__) fx.ia_Weaving.1 fx.ia_Weaving.2 objAdd ((ok_Weaving___add__ fx D_Weaving___add__).mono (Nat.le_refl _)) (D_Weaving___add__.bindsN fun _ _ _ _ _ _ us hl => match us, hl with | [_, _], _ => rfl) hr7 tk nd rfl locOf (npin hp) (pt_var (pv 9)))
    (tss_cons (ts_if (tt_w (tw_or (tt_cmp (op_neP hK (u64 hr)) (pt_fl (flAll (.cons (fun _ => ⟨fx.c_Weaving, fx.n_Weaving__events⟩) .nil)) (pt_var (pv 15))) (pt_var (pv 10)) rfl) (tw_or (tt_cmp (op_neP hK (u64 hr)) (pt_fl (flAll (.cons (fun _ => ⟨fx.c_Weaving, fx.n_Weaving__firsts⟩) (.cons (fun z => absurd z (by decide)) .nil))) (pt_var (pv 15))) (pt_res (tr_buiT (x := "tuple") (bu_tuple hK) rfl fx.f_tuple boot_tuple (ta_cons (pt_var (pv 3)) ta_nil))) rfl) (tw_or1 (tt_cmp (op_neP hK (u64 hr)) (pt_fl (flAll (.cons (fun _ => ⟨fx.c_Weaving, fx.n_Weaving__events⟩) .nil)) (pt_var (pv 8))) (pt_res (tr_buiT (x := "tuple") (bu_tuple hK) rfl fx.f_tuple boot_tuple (ta_cons (pt_var (pv 4)) ta_nil))) rfl))))) (tss_one (ts_ret hp pt_bl)) tss_nil)
    (tss_one (ts_if (tt_w (tw_or (tt_neOwn (own_of fx.m_Weaving____eq__) fx.ne_Weaving fx.o_Weaving ((ok_Weaving___eq__ fx D_Weaving___eq__).mono (Nat.le_refl _)) (D_Weaving___eq__.bindsN fun _ _ _ _ _ _ us hl => match us, hl with | [_, _], _ => rfl) hr3 tk (pt_res (tr_binOwn (own_of fx.m_Weaving____add__) fx.sf_Weaving ((ok_Weaving___add__ fx D_Weaving___add__).mono (Nat.le_refl _)) (D_Weaving___add__.bindsN fun _ _ _ _ _ _ us hl => match us, hl with | [_, _], _ => rfl) hr7 tk (pt_var (pv 8)) (pt_res (tr_make fx.k_Weaving ((ok_Weaving___init__ fx D_Weaving___init__).mono (Nat.le_refl _)) (x2_Weaving___init__ fx D_Weaving___init__) hr6 tk rfl fx.g_Weaving (ta_cons (pt_var (pv 3)) ta_nil))))) (pt_var (pv 8))) (tw_or (tt_neOwn (own_of fx.m_Weaving____eq__) fx.ne_Weaving fx.o_Weaving ((ok_Weaving___eq__ fx D_Weaving___eq__).mono (Nat.le_refl _)) (D_Weaving___eq__.bindsN fun _ _ _ _ _ _ us hl => match us, hl with | [_, _], _ => rfl) hr3 tk (pt_res (tr_slOwn (own_of fx.m_Weaving____getitem__) fx.w_Weaving____getitem__ fx.nq_Weaving ((ok_Weaving___getitem__ fx D_Weaving___getitem__).mono (Nat.le_refl _)) (D_Weaving___getitem__.bindsN fun _ _ _ _ _ _ us hl => match us, hl with | [_, _], _ => rfl) hr8 tk (pt_res (tr_binOwn (own_of fx.m_Weaving____add__) fx.sf_Weaving ((ok_Weaving___add__ fx D_Weaving___add__).mono (Nat.le_refl _)) (D_Weaving___add__.bindsN fun _ _ _ _ _ _ us hl => match us, hl with | [_, _], _ => rfl) hr7 tk (pt_var (pv 8)) (pt_var (pv 9)))) to_no (to_so (pt_res (tr_bui (x := "len") (bu_len hK) rfl fx.f_len boot_len (ta_cons (pt_var (pv 4)) ta_nil)))))) (pt_var (pv 8))) (tw_or1 (tt_neOwn (own_of fx.m_Weaving____eq__) fx.ne_Weaving fx.o_Weaving ((ok_Weaving___eq__ fx D_Weaving___eq__).mono (Nat.le_refl _)) (D_Weaving___eq__.bindsN fun _ _ _ _ _ _ us hl => match us, hl with | [_, _], _ => rfl) hr3 tk (pt_res (tr_slOwn (own_of fx.m_Weaving____getitem__) fx.w_Weaving____getitem__ fx.nq_Weaving ((ok_Weaving___getitem__ fx D_Weaving___getitem__).mono (Nat.le_refl _)) (D_Weaving___getitem__.bindsN fun _ _ _ _ _ _ us hl => match us, hl with | [_, _], _ => rfl) hr8 tk (pt_res (tr_binOwn (own_of fx.m_Weaving____add__) fx.sf_Weaving ((ok_Weaving___add__ fx D_Weaving___add__).mono (Nat.le_refl _)) (D_Weaving___add__.bindsN fun _ _ _ _ _ _ us hl => match us, hl with | [_, _], _ => rfl) hr7 tk (pt_var (pv 8)) (pt_var (pv 9)))) (to_so (pt_res (tr_bui (x := "len") (bu_len hK) rfl fx.f_len boot_len (ta_cons (pt_var (pv 4)) ta_nil)))) to_no)) (pt_var (pv 9))))))) (tss_one (ts_ret hp pt_bl)) tss_nil))))) tss_nil))))))))))
    (tss_one (ts_ret hp pt_bl))))
end
theorem fx_of {K : PySem.W.Frag} {h : Heap} {mg : PySem.Str → Option Value} (X : K.In h) (G : h.Ns mainGlobals mg) (c : SaysT fs fn K) : Fx PySem.Challenge.rw_stepsback_k11_weavings_put_together.prog K mg where
  f_abs := He.free_ok X G (c.fact 0)
  f_int := He.free_ok X G (c.fact 1)
  g__law_deal := He.glo_ok X G (c.fact 2)
  f_range := He.free_ok X G (c.fact 3)
  f_list := He.free_ok X G (c.fact 4)
  f_len := He.free_ok X G (c.fact 5)
  g__law_draw := He.glo_ok X G (c.fact 6)
  g__law_pool := He.glo_ok X G (c.fact 7)
  g__law_mixed := He.glo_ok X G (c.fact 8)
  g__law_names := He.glo_ok X G (c.fact 9)
  g__law_pick := He.glo_ok X G (c.fact 10)
  g__law_event := He.glo_ok X G (c.fact 11)
  g__law_weaving := He.glo_ok X G (c.fact 12)
  is_list_tuple := (c.fact 13)
  f_tuple := He.free_ok X G (c.fact 14)
  q_Weaving := isicB_ok (c.fact 15)
  f_isinstance := He.free_ok X G (c.fact 16)
  g_is_sequence := He.glo_ok X G (c.fact 17)
  is_str := (c.fact 18)
  f_str := He.free_ok X G (c.fact 19)
  g_BARRED := He.glo_ok X G (c.fact 20)
  t_BARRED := fun H => by have z := He.tupB_ok (c.fact 21 (f := fun K => He.tupB K "BARRED" ((["and", "any", "do", "if", "none", "not", "same", "send", "then", "time", "to", "wipe", "work"] : List PySem.Str).map He.Dv.str))) H; rw [dv_strs] at z; exact z
  s_SMALL := He.str_ok X G (c.fact 22)
  f_all := He.free_ok X G (c.fact 23)
  g_is_name := He.glo_ok X G (c.fact 24)
  g_are_names := He.glo_ok X G (c.fact 25)
  g_are_firsts := He.glo_ok X G (c.fact 26)
  x1_InvalidEvent := (c.fact 27 (f := fun K => xcB1 XB.value "at" (He.ga K "InvalidEvent") K))
  x2_InvalidEvent := (c.fact 28 (f := fun K => xcB2 "at" PySem.Challenge.pw_stepsback_k11_weavings_put_together.main.file (He.ga K "InvalidEvent") K))
  x3_InvalidEvent := (c.fact 29 (f := fun K => xcB3 XB.value "at" (He.ga K "InvalidEvent") K))
  x4_InvalidEvent := (c.fact 30 (f := fun K => xcB4 "at" (He.ga K "InvalidEvent") K))
  x5_InvalidEvent := (c.fact 31 (f := fun K => xcB5 (He.ga K "InvalidEvent") K))
  g_InvalidEvent := He.glo_ok X G (c.fact 32)
  f_enumerate := He.free_ok X G (c.fact 33)
  is_tuple := (c.fact 34)
  is_int := (c.fact 35)
  is_bool := (c.fact 36)
  f_bool := He.free_ok X G (c.fact 37)
  g_is_integer := He.glo_ok X G (c.fact 38)
  g_OF_LETTERS := He.glo_ok X G (c.fact 39)
  t_OF_LETTERS := fun H => by have z := He.tupB_ok (c.fact 40 (f := fun K => He.tupB K "OF_LETTERS" ((["back", "there"] : List PySem.Str).map He.Dv.str))) H; rw [dv_strs] at z; exact z
  g_is_step := He.glo_ok X G (c.fact 41)
  g_OF_STEPS := He.glo_ok X G (c.fact 42)
  t_OF_STEPS := fun H => by have z := He.tupB_ok (c.fact 43 (f := fun K => He.tupB K "OF_STEPS" ((["time", "build", "leave", "work", "wipe"] : List PySem.Str).map He.Dv.str))) H; rw [dv_strs] at z; exact z
  g_is_event := He.glo_ok X G (c.fact 44)
  c_Weaving := He.cls_ok (c.fact 45)
  n_Weaving__firsts := He.noat_ok (c.fact 46)
  n_Weaving__events := He.noat_ok (c.fact 47)
  k_Weaving := He.mkr_ok (c.fact 48)
  g_Weaving := He.glo_ok X G (c.fact 49)
  is_Weaving := (c.fact 50)
  x0_Mismatch := (c.fact 51 (f := fun K => x0B XB.value (He.ga K "Mismatch") K))
  g_Mismatch := He.glo_ok X G (c.fact 52)
  m_Weaving____add__ := He.meth_ok (c.fact 53)
  sf_Weaving := (c.fact 54 (f := fun K => PySem.W.selfFirst K (He.ga K "Weaving")))
  g_StepError := He.glo_ok X G (c.fact 55)
  xi_28_23 := (c.fact 56)
  kt_28_23_StepError := (c.fact 57)
  g_Refused := He.glo_ok X G (c.fact 58)
  kt_28_23_Refused := (c.fact 59)
  em_28_23_28 := (c.fact 60)
  g__law_tried := He.glo_ok X G (c.fact 61)
  m_Weaving__alone := He.meth_ok (c.fact 62)
  m_Weaving____eq__ := He.meth_ok (c.fact 63)
  ne_Weaving := He.eqO_ok (c.fact 64)
  o_Weaving := mroOb_ok (c.fact 65)
  ia_Weaving := noIadd_ok (c.fact 66)
  x1_NoEvent := (c.fact 67 (f := fun K => xcB1 XB.index "at" (He.ga K "NoEvent") K))
  x2_NoEvent := (c.fact 68 (f := fun K => xcB2 "at" PySem.Challenge.pw_stepsback_k11_weavings_put_together.main.file (He.ga K "NoEvent") K))
  x3_NoEvent := (c.fact 69 (f := fun K => xcB3 XB.index "at" (He.ga K "NoEvent") K))
  x4_NoEvent := (c.fact 70 (f := fun K => xcB4 "at" (He.ga K "NoEvent") K))
  x5_NoEvent := (c.fact 71 (f := fun K => xcB5 (He.ga K "NoEvent") K))
  g_NoEvent := He.glo_ok X G (c.fact 72)
  m_Weaving____getitem__ := He.meth_ok (c.fact 73)
  w_Weaving____getitem__ := (c.fact 74)
  nq_Weaving := (c.fact 75 (f := fun K => PySem.W.noSeq K (He.ga K "Weaving")))
  d_Weaving___init___0 := nilAt_ok (c.fact 76)
  g_law := He.glo_ok X G (c.fact 77)
  xc_InvalidEvent := xcAll (fl := PySem.Challenge.pw_stepsback_k11_weavings_put_together.main.file) (by rfl) (by decide +kernel) (c.fact 27 (f := fun K => xcB1 XB.value "at" (He.ga K "InvalidEvent") K)) (c.fact 28 (f := fun K => xcB2 "at" PySem.Challenge.pw_stepsback_k11_weavings_put_together.main.file (He.ga K "InvalidEvent") K)) (c.fact 29 (f := fun K => xcB3 XB.value "at" (He.ga K "InvalidEvent") K)) (c.fact 30 (f := fun K => xcB4 "at" (He.ga K "InvalidEvent") K)) (c.fact 31 (f := fun K => xcB5 (He.ga K "InvalidEvent") K))
  xc_NoEvent := xcAll (fl := PySem.Challenge.pw_stepsback_k11_weavings_put_together.main.file) (by rfl) (by decide +kernel) (c.fact 67 (f := fun K => xcB1 XB.index "at" (He.ga K "NoEvent") K)) (c.fact 68 (f := fun K => xcB2 "at" PySem.Challenge.pw_stepsback_k11_weavings_put_together.main.file (He.ga K "NoEvent") K)) (c.fact 69 (f := fun K => xcB3 XB.index "at" (He.ga K "NoEvent") K)) (c.fact 70 (f := fun K => xcB4 "at" (He.ga K "NoEvent") K)) (c.fact 71 (f := fun K => xcB5 (He.ga K "NoEvent") K))
  d__law_deal := c.def_ 0 (d := dd__law_deal)
  d__law_draw := c.def_ 1 (d := dd__law_draw)
  d__law_mixed := c.def_ 2 (d := dd__law_mixed)
  d__law_pool := c.def_ 3 (d := dd__law_pool)
  d__law_names := c.def_ 4 (d := dd__law_names)
  d__law_pick := c.def_ 5 (d := dd__law_pick)
  d__law_event := c.def_ 6 (d := dd__law_event)
  d__law_weaving := c.def_ 7 (d := dd__law_weaving)
  d_is_sequence := c.def_ 8 (d := dd_is_sequence)
  d_is_name := c.def_ 9 (d := dd_is_name)
  d_are_names := c.def_ 10 (d := dd_are_names)
  d_are_firsts := c.def_ 11 (d := dd_are_firsts)
  d_is_integer := c.def_ 12 (d := dd_is_integer)
  d_is_step := c.def_ 13 (d := dd_is_step)
  d_is_event := c.def_ 14 (d := dd_is_event)
  d_Weaving___init__ := c.def_ 15 (d := dd_Weaving___init__)
  d_Weaving___add__ := c.def_ 16 (d := dd_Weaving___add__)
  d__law_tried := c.def_ 17 (d := dd__law_tried)
  d_Weaving_alone := c.def_ 18 (d := dd_Weaving_alone)
  d_Weaving___eq__ := c.def_ 19 (d := dd_Weaving___eq__)
  d_Weaving___getitem__ := c.def_ 20 (d := dd_Weaving___getitem__)
  d_law := c.def_ 21 (d := dd_law)
end Lk11
open PySem PySem.W PySem.Calls PyProof.Rows
theorem Lk11.holds (plain : ∀ ns : List Int, ns.length ≤ 63 → ∃ as, Lk11.F_law [.t (.scr ns)] = .ret (.t (.bl true)) as) : PySem.Challenge.rw_stepsback_k11_weavings_put_together.Holds := by
  w_on; o_law
  refine HandSHeadRun.head_any (r := OpenLaw.row PySem.Challenge.rw_stepsback_k11_weavings_put_together) (q := view (OpenLaw.row PySem.Challenge.rw_stepsback_k11_weavings_put_together).prog [35]) (H := Lk11.hk) (ob := Lk11.ob) (M := 20000) (loose := Lk11.nms) (d := HandSHeadRun.topDef (OpenLaw.row PySem.Challenge.rw_stepsback_k11_weavings_put_together).prog 35) (kwd := []) Lk11.ob_eq
    (by kernel_rfl) (fun s => by kernel_rfl) Lk11.run (by kernel_rfl) (by kernel_rfl) (by kernel_rfl) (by rfl) (by first | assumption | decide +kernel) (by decide +kernel) ⟨rfl, rfl, rfl, rfl, rfl, by decide +kernel⟩ ?hw ?hc
  case hw => w_witness2
  case hc =>
    refine TreeL.walkG (l := PySem.Challenge.rw_stepsback_k11_weavings_put_together) (n := 63) (k := 9) (x := "_law_script") rfl (by decide) (by kernel_rfl) (TreeL.room_top ⟨rfl, by decide, by decide⟩) ?F
    intro w mg fa h Y G hmg0
    obtain ⟨K, KX, c⟩ := Y
    have hmg : mg ("law" : PySem.Str) = some (.ref fa) := by
      have e : (HandSHeadRun.topDef (OpenLaw.row PySem.Challenge.rw_stepsback_k11_weavings_put_together).prog 35).name = ("law" : PySem.Str) := by kernel_rfl
      rw [← e]
      exact hmg0
    have fx := Lk11.fx_of KX G c
    obtain ⟨fd, D⟩ := fx.d_law
    have e := hmg.symm.trans fx.g_law
    cases e
    exact ⟨K, fd, TreeL.tcN K Lk11.cs, Lk11.F_law, KX, fun s u => L2.FunD.bindsA (ps := ["_law_script"]) D (fun _ _ _ _ _ _ us hl => match us, hl with | [_], _ => rfl) s [u] rfl, rfl, plain, fun base _ _ => Lk11.ok_law fx D⟩
end
theorem PySem.Challenge.cw_stepsback_k11_weavings_put_together_holds : PySem.Challenge.rw_stepsback_k11_weavings_put_together.Holds := by
  exact Lk11.holds Lk11.plain
