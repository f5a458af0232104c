import PyProof.Rows.All
import Wide.All
import OpenK.AllK
import Wide.FinOn
import HandS.ForMost
import HandS.ForExc
import HandS.Defaults
import HandS.Lambda
import HandS.Flow
import HandS.Star
import HandS.Zip
import HandS.ExcOwn
import HandS.CallSlots
import HandS.List
import HandS.Text
import HandS.Deep
import HandS.Wide
import HandS.TupAny
import HandS.RaiseMore
import HandS.IsInst
import HandS.Iter
import HandS.Comp
import HandS.Style
import PyProof.CollectIter
import PyProof.RulesMatchSeq
import PyProof.Rows.TupIter
import PyProof.Rows.MatchSeqLen
import HandS.Dict
import HandS.OwnEq
import OpenK.KOps
import OpenK.KMeth
import KE.KCallOwn
import PyProof.InstEq
import HandS.ClsMeth
import HandS.Property
import PyProof.ReprRoads
import PyProof.CallFns
import HandS.Ends
import HandS.HeadEnd
import HandS.Head2
import HandS.HeadHook2
import KE.GoesEnum
import HandS.HeadNt
import HandS.HeadWalk
import KE.KExcSuper
import HandS.ExcInit
import HandS.ExcCtx
import HandS.Hot
import HandS.HotCalls
import HandS.RaiseFrom
import HandS.ExcField
import HandS.TryOnly
import KE.KExcIs
import HandS.StrMore
import HandS.FStr
import HandS.DictComp
import HandS.WordsDict
import KE.KIsAll
import PyProof.NeKinds
import PyProof.Rows.SortShellAny
import HandS.Head0
import HandS.Head1
import HandS.Conv
import HandS.Strs
import PySem.Challenge.RW_stepsback_k54_tasks_refused
set_option Elab.async false
set_option linter.all false
set_option maxRecDepth 100000
set_option maxHeartbeats 4000000
section
namespace TreeL
open PySem PySem.Spec PyProof.Rows L2

inductive PV where
  | non | bl (b : Bool) | int (i : Int) | str (x : Str)
  | lst (xs : List PV) | tup (xs : List PV)
  | ins (c : Nat) (fs : List (Str × PV))
  | dct (t : Bool) (kvs : List (PV × PV))
  | scr (ns : List Int)
  | cls (k : Nat)
  | slc (lo hi st : Option Int)
  deriving Inhabited

def StrG (x : Str) : Prop := x.length ≤ sizeLine ∧ PyData.strOk x = true
def keyP : Key → PV
  | .inl i => .int i
  | .inr x => .str x

mutual
def PV.beq : PV → PV → Bool
  | .non, .non => true
  | .bl a, .bl b => a == b
  | .int a, .int b => a == b
  | .str a, .str b => a == b
  | .lst a, .lst b => PV.beqL a b
  | .tup a, .tup b => PV.beqL a b
  | .ins k a, .ins l b => k == l && PV.beqF a b
  | .dct k a, .dct l b => k == l && PV.beqP a b
  | .scr a, .scr b => a == b
  | .cls a, .cls b => a == b
  | .slc a b c, .slc x y z => a == x && b == y && c == z
  | _, _ => false
def PV.beqL : List PV → List PV → Bool
  | [], [] => true
  | x :: xs, y :: ys => PV.beq x y && PV.beqL xs ys
  | _, _ => false
def PV.beqF : List (Str × PV) → List (Str × PV) → Bool
  | [], [] => true
  | (f, x) :: xs, (g, y) :: ys => f == g && PV.beq x y && PV.beqF xs ys
  | _, _ => false
def PV.beqP : List (PV × PV) → List (PV × PV) → Bool
  | [], [] => true
  | (f, x) :: xs, (g, y) :: ys => PV.beq f g && PV.beq x y && PV.beqP xs ys
  | _, _ => false
end
mutual
theorem PV.beq_self : ∀ x : PV, PV.beq x x = true
  | .non => by simp [PV.beq]
  | .bl a => by simp [PV.beq]
  | .int a => by simp [PV.beq]
  | .str a => by simp [PV.beq]
  | .lst a => by rw [PV.beq]; exact PV.beqL_self a
  | .tup a => by rw [PV.beq]; exact PV.beqL_self a
  | .ins k a => by rw [PV.beq, PV.beqF_self a]; simp
  | .dct k a => by rw [PV.beq, PV.beqP_self a]; simp
  | .scr a => by simp [PV.beq]
  | .cls a => by simp [PV.beq]
  | .slc a b c => by simp [PV.beq]
theorem PV.beqL_self : ∀ x : List PV, PV.beqL x x = true
  | [] => by simp [PV.beqL]
  | x :: xs => by rw [PV.beqL, PV.beq_self x, PV.beqL_self xs]; rfl
theorem PV.beqF_self : ∀ x : List (Str × PV), PV.beqF x x = true
  | [] => by simp [PV.beqF]
  | (f, x) :: xs => by rw [PV.beqF, PV.beq_self x, PV.beqF_self xs]; simp
theorem PV.beqP_self : ∀ x : List (PV × PV), PV.beqP x x = true
  | [] => by simp [PV.beqP]
  | (f, x) :: xs => by rw [PV.beqP, PV.beq_self f, PV.beq_self x, PV.beqP_self xs]; rfl
end
mutual
theorem PV.beq_eq : ∀ {x y : PV}, PV.beq x y = true → x = y
  | .non, y, h => by cases y <;> first | rfl | simp [PV.beq] at h
  | .bl a, y, h => by cases y <;> simp [PV.beq] at h; rw [h]
  | .int a, y, h => by cases y <;> simp [PV.beq] at h; rw [h]
  | .str a, y, h => by cases y <;> simp [PV.beq] at h; rw [h]
  | .lst a, y, h => by
    cases y <;> simp [PV.beq] at h
    rw [PV.beqL_eq h]
  | .tup a, y, h => by
    cases y <;> simp [PV.beq] at h
    rw [PV.beqL_eq h]
  | .ins k a, y, h => by
    cases y <;> simp [PV.beq] at h
    rw [h.1, PV.beqF_eq h.2]
  | .dct k a, y, h => by
    cases y <;> simp [PV.beq] at h
    rw [h.1, PV.beqP_eq h.2]
  | .scr a, y, h => by cases y <;> simp [PV.beq] at h; rw [h]
  | .cls a, y, h => by cases y <;> simp [PV.beq] at h; rw [h]
  | .slc a b c, y, h => by cases y <;> simp [PV.beq] at h; rw [h.1.1, h.1.2, h.2]
theorem PV.beqL_eq : ∀ {x y : List PV}, PV.beqL x y = true → x = y
  | [], [], _ => rfl
  | [], _ :: _, h => by simp [PV.beqL] at h
  | _ :: _, [], h => by simp [PV.beqL] at h
  | x :: xs, y :: ys, h => by
    simp [PV.beqL] at h
    rw [PV.beq_eq h.1, PV.beqL_eq h.2]
theorem PV.beqF_eq : ∀ {x y : List (Str × PV)}, PV.beqF x y = true → x = y
  | [], [], _ => rfl
  | [], _ :: _, h => by simp [PV.beqF] at h
  | _ :: _, [], h => by simp [PV.beqF] at h
  | (f, x) :: xs, (g, y) :: ys, h => by
    simp [PV.beqF] at h
    rw [h.1.1, PV.beq_eq h.1.2, PV.beqF_eq h.2]
theorem PV.beqP_eq : ∀ {x y : List (PV × PV)}, PV.beqP x y = true → x = y
  | [], [], _ => rfl
  | [], _ :: _, h => by simp [PV.beqP] at h
  | _ :: _, [], h => by simp [PV.beqP] at h
  | (f, x) :: xs, (g, y) :: ys, h => by
    simp [PV.beqP] at h
    rw [PV.beq_eq h.1.1, PV.beq_eq h.1.2, PV.beqP_eq h.2]
end
structure TC where
  C : Nat → Addr
  K : PySem.W.Frag
  tab : Addr := 0
  lam : Str := ""

def SqP (K : PySem.W.Frag) (H : Hp) (a : Addr) (xs : List V) : Prop :=
  H a = some (.tup xs) ∨ (xs.length == 2) = false ∧ ∃ (o : Obj) (its : Array Value) (n : Nat), K.lookup a = some o ∧ o.cls = .type "tuple" ∧ o.data = .seq its n ∧ its.size ≤ sizeLine ∧ Vals xs its.toList
theorem SqP.t {K : PySem.W.Frag} {H : Hp} {a : Addr} {xs : List V} (h : SqP K H a xs) : SqT K H a xs := h.imp .inl And.right
theorem SqP.all {K : PySem.W.Frag} {a : Addr} {xs : List V} (h : ∀ H, SqT K H a xs) (n : (xs.length == 2) = false) (H : Hp) : SqP K H a xs := by
  rcases h (fun _ => none) with (z | ⟨_, z⟩) | z
  · cases z
  · cases z
  · exact .inr ⟨n, z⟩
theorem SqP.two {K : PySem.W.Frag} {H : Hp} {a : Addr} {x y : V} (h : SqP K H a [x, y]) : H a = some (.tup [x, y]) := by
  rcases h with h | ⟨h, _⟩
  · exact h
  · cases h
mutual
def Rep (c : TC) (G : Hp) : PV → V → Prop
  | .non, v => v = .non
  | .bl b, v => v = .bl b
  | .int i, v => v = .int i
  | .str x, v => v = .str x ∧ StrG x
  | .lst xs, v => ∃ p vs, v = .ref p ∧ G p = some (.lst vs) ∧ RepL c G xs vs
  | .tup xs, v => ∃ p vs, v = .ref p ∧ SqP c.K G p vs ∧ RepL c G xs vs
  | .ins k fs, v => ∃ p dx gs, v = .ref p ∧ G p = some (.ins (c.C k) dx gs) ∧ RepF c G fs gs
  | .dct t kvs, v => ∃ p, v = .ref p ∧
      ((t = false ∧ ∃ ks, G p = some (.dK ks) ∧ RepK c G kvs ks) ∨ (t = true ∧ ∃ ks, G p = some (.dT ks) ∧ RepT c G kvs ks))
  | .scr ns, v => ∃ p, v = .ref p ∧ SqL c.K G p (ns.map V.int)
  | .cls k, v => v = .ref (c.C k)
  | .slc lo hi st, v => ∃ p vl vu vs, v = .ref p ∧ IsPart vl lo ∧ IsPart vu hi ∧ IsPart vs st ∧ G p = some (.frz { cls := .type "slice", data := .fields #[vl, vu, vs] } (.own p))
def RepL (c : TC) (G : Hp) : List PV → List V → Prop
  | [], vs => vs = []
  | x :: xs, vs => ∃ v r, vs = v :: r ∧ Rep c G x v ∧ RepL c G xs r
def RepF (c : TC) (G : Hp) : List (Str × PV) → List (Str × V) → Prop
  | [], vs => vs = []
  | (f, x) :: xs, vs => ∃ v r, vs = (f, v) :: r ∧ Rep c G x v ∧ RepF c G xs r
def RepK (c : TC) (G : Hp) : List (PV × PV) → List (Key × V) → Prop
  | [], vs => vs = []
  | (k, x) :: xs, vs => ∃ q v r, vs = (q, v) :: r ∧ k = keyP q ∧ Rep c G x v ∧ RepK c G xs r
def RepT (c : TC) (G : Hp) : List (PV × PV) → List (List Key × V) → Prop
  | [], vs => vs = []
  | (k, x) :: xs, vs => ∃ q v r, vs = (q, v) :: r ∧ k = .tup (q.map keyP) ∧ Rep c G x v ∧ RepT c G xs r
end

def Sub (G H : Hp) : Prop := ∀ a o, G a = some o → H a = some o
theorem Sub.refl (G : Hp) : Sub G G := fun _ _ h => h
theorem Sub.trans {G H I : Hp} (a : Sub G H) (b : Sub H I) : Sub G I := fun x o h => b x o (a x o h)
theorem Sub.rd {G H : Hp} (e : Sub G H) {a : Addr} {u : HO} (h : Rd G a u) : Rd H a u := by
  rcases h with h | ⟨o, h⟩
  · exact Or.inl (e _ _ h)
  · exact Or.inr ⟨o, e _ _ h⟩
theorem Sub.sqL {K : PySem.W.Frag} {G H : Hp} (e : Sub G H) {a : Addr} {xs : List V} (h : SqL K G a xs) : SqL K H a xs := by
  rcases h with h | h
  · exact Or.inl (e.rd h)
  · exact Or.inr h
theorem Sub.sqP {K : PySem.W.Frag} {G H : Hp} (e : Sub G H) {a : Addr} {xs : List V} (h : SqP K G a xs) : SqP K H a xs := h.imp (e _ _) id
theorem Sub.sqT {K : PySem.W.Frag} {G H : Hp} (e : Sub G H) {a : Addr} {xs : List V} (h : SqP K G a xs) : SqT K H a xs := (e.sqP h).t

section
variable {c : TC} {G H : Hp}
mutual
theorem Rep.mono (e : Sub G H) : ∀ {t : PV} {v : V}, Rep c G t v → Rep c H t v
  | .non, _, h => h
  | .bl _, _, h => h
  | .int _, _, h => h
  | .str _, _, h => h
  | .lst xs, _, ⟨p, vs, a, b, r⟩ => ⟨p, vs, a, e _ _ b, RepL.mono e r⟩
  | .tup xs, _, ⟨p, vs, a, b, r⟩ => ⟨p, vs, a, e.sqP b, RepL.mono e r⟩
  | .ins k fs, _, ⟨p, dx, gs, a, b, r⟩ => ⟨p, dx, gs, a, e _ _ b, RepF.mono e r⟩
  | .dct t kvs, _, ⟨p, a, h⟩ => ⟨p, a, match h with
      | .inl ⟨t, ks, b, r⟩ => .inl ⟨t, ks, e _ _ b, RepK.mono e r⟩
      | .inr ⟨t, ks, b, r⟩ => .inr ⟨t, ks, e _ _ b, RepT.mono e r⟩⟩
  | .scr _, _, ⟨p, a, h⟩ => ⟨p, a, e.sqL h⟩
  | .cls _, _, h => h
  | .slc _ _ _, _, ⟨p, vl, vu, vs, a, b1, b2, b3, g⟩ => ⟨p, vl, vu, vs, a, b1, b2, b3, e _ _ g⟩
theorem RepL.mono (e : Sub G H) : ∀ {t : List PV} {v : List V}, RepL c G t v → RepL c H t v
  | [], _, h => h
  | _ :: _, _, ⟨v, r, a, b, d⟩ => ⟨v, r, a, Rep.mono e b, RepL.mono e d⟩
theorem RepF.mono (e : Sub G H) : ∀ {t : List (Str × PV)} {v : List (Str × V)}, RepF c G t v → RepF c H t v
  | [], _, h => h
  | (_, _) :: _, _, ⟨v, r, a, b, d⟩ => ⟨v, r, a, Rep.mono e b, RepF.mono e d⟩
theorem RepK.mono (e : Sub G H) : ∀ {t : List (PV × PV)} {v : List (Key × V)}, RepK c G t v → RepK c H t v
  | [], _, h => h
  | (_, _) :: _, _, ⟨q, v, r, a, k, b, d⟩ => ⟨q, v, r, a, k, Rep.mono e b, RepK.mono e d⟩
theorem RepT.mono (e : Sub G H) : ∀ {t : List (PV × PV)} {v : List (List Key × V)}, RepT c G t v → RepT c H t v
  | [], _, h => h
  | (_, _) :: _, _, ⟨q, v, r, a, k, b, d⟩ => ⟨q, v, r, a, k, Rep.mono e b, RepT.mono e d⟩
end
theorem RepL.length : ∀ {t : List PV} {v : List V}, RepL c G t v → v.length = t.length
  | [], _, h => by cases h; rfl
  | _ :: _, _, ⟨v, r, a, _, d⟩ => by subst a; simp [RepL.length d]
theorem RepL.get : ∀ {t : List PV} {v : List V} {i : Nat} {x : PV}, RepL c G t v → t[i]? = some x → ∃ u, v[i]? = some u ∧ Rep c G x u
  | [], _, _, _, _, e => by simp at e
  | _ :: _, _, 0, x, ⟨v, r, a, b, d⟩, e => by
    subst a
    simp at e
    subst e
    exact ⟨v, rfl, b⟩
  | _ :: ts, _, i + 1, x, ⟨v, r, a, b, d⟩, e => by
    subst a
    obtain ⟨u, h1, h2⟩ := RepL.get (i := i) d (by simpa using e)
    exact ⟨u, by simpa using h1, h2⟩
theorem RepL.append : ∀ {t t' : List PV} {v v' : List V}, RepL c G t v → RepL c G t' v' → RepL c G (t ++ t') (v ++ v')
  | [], _, _, _, h, h' => by cases h; exact h'
  | _ :: _, _, _, _, ⟨v, r, a, b, d⟩, h' => by subst a; exact ⟨v, r ++ _, rfl, b, RepL.append d h'⟩
theorem RepL.take : ∀ {t : List PV} {v : List V} (n : Nat), RepL c G t v → RepL c G (t.take n) (v.take n)
  | _, _, 0, _ => by simp [RepL]
  | [], _, n + 1, h => by cases h; simp [RepL]
  | _ :: _, _, n + 1, ⟨v, r, a, b, d⟩ => by subst a; exact ⟨v, _, rfl, b, RepL.take n d⟩
theorem RepL.drop : ∀ {t : List PV} {v : List V} (n : Nat), RepL c G t v → RepL c G (t.drop n) (v.drop n)
  | _, _, 0, h => by simpa using h
  | [], _, n + 1, h => by cases h; simp [RepL]
  | _ :: _, _, n + 1, ⟨v, r, a, b, d⟩ => by subst a; simpa using RepL.drop n d
theorem RepL.one {t : PV} {v : V} (h : Rep c G t v) : RepL c G [t] [v] := ⟨v, [], rfl, h, rfl⟩
theorem RepL.nil : RepL c G [] [] := rfl
theorem RepL.cons {t : PV} {v : V} {ts : List PV} {vs : List V} (h : Rep c G t v) (r : RepL c G ts vs) : RepL c G (t :: ts) (v :: vs) := ⟨v, vs, rfl, h, r⟩
theorem RepL.reverse : ∀ {t : List PV} {v : List V}, RepL c G t v → RepL c G t.reverse v.reverse
  | [], _, h => by cases h; exact RepL.nil
  | _ :: _, _, ⟨v, r, a, b, d⟩ => by
    subst a
    rw [List.reverse_cons, List.reverse_cons]
    exact (RepL.reverse d).append (RepL.one b)
theorem RepL.set : ∀ {t : List PV} {v : List V} (i : Nat) {x : PV} {u : V}, RepL c G t v → Rep c G x u → RepL c G (t.set i x) (v.set i u)
  | [], _, _, _, _, h, _ => by cases h; exact RepL.nil
  | _ :: _, _, 0, _, u, ⟨v, r, a, b, d⟩, h => by subst a; exact ⟨u, r, rfl, h, d⟩
  | _ :: _, _, i + 1, _, _, ⟨v, r, a, b, d⟩, h => by subst a; exact ⟨v, _, rfl, b, RepL.set i d h⟩
theorem RepL.eraseIdx : ∀ {t : List PV} {v : List V} (i : Nat), RepL c G t v → RepL c G (t.eraseIdx i) (v.eraseIdx i)
  | [], _, _, h => by cases h; exact RepL.nil
  | _ :: _, _, 0, ⟨v, r, a, b, d⟩ => by subst a; exact d
  | _ :: _, _, i + 1, ⟨v, r, a, b, d⟩ => by subst a; exact ⟨v, _, rfl, b, RepL.eraseIdx i d⟩
theorem RepF.lookup : ∀ {t : List (Str × PV)} {v : List (Str × V)} {f : Str} {x : PV}, RepF c G t v → t.lookup f = some x → ∃ u, v.lookup f = some u ∧ Rep c G x u
  | [], _, _, _, _, e => by simp at e
  | (g, y) :: _, _, f, x, ⟨v, r, a, b, d⟩, e => by
    subst a
    rw [List.lookup_cons] at e
    rw [List.lookup_cons]
    cases h : f == g with
    | true =>
      rw [h] at e
      simp at e
      subst e
      exact ⟨v, rfl, b⟩
    | false =>
      rw [h] at e
      exact RepF.lookup d e
theorem RepF.length : ∀ {t : List (Str × PV)} {v : List (Str × V)}, RepF c G t v → v.length = t.length
  | [], _, h => by cases h; rfl
  | (_, _) :: _, _, ⟨v, r, a, _, d⟩ => by subst a; simp [RepF.length d]
end

def IsKey (o : HO) : Prop := ∃ ks : List Key, o = .tup (ks.map kV)
theorem nk_lst {vs : List V} : ¬ IsKey (.lst vs) := fun ⟨_, e⟩ => nomatch e
theorem nk_dK {ks : List (Key × V)} : ¬ IsKey (.dK ks) := fun ⟨_, e⟩ => nomatch e
structure Step (A : List Addr) (H G H1 G1 : Hp) : Prop where
  sub : Sub G G1
  sub1 : Sub G1 H1
  new : ∀ a o, G1 a = some o → G a = some o ∨ H a = none ∨ IsKey o
  keep : ∀ a o, a ∉ A → H a = some o → H1 a = some o
  there : ∀ a, H1 a = none → H a = none
theorem Step.refl {A : List Addr} {H G : Hp} (h : Sub G H) : Step A H G H G := ⟨Sub.refl _, h, fun _ _ e => .inl e, fun _ _ _ e => e, fun _ e => e⟩
theorem Step.trans {A B : List Addr} {H G H1 G1 H2 G2 : Hp} (a : Step A H G H1 G1) (b : Step B H1 G1 H2 G2) (hB : ∀ x ∈ B, x ∈ A ∨ H x = none) : Step A H G H2 G2 where
  sub := a.sub.trans b.sub
  sub1 := b.sub1
  new := fun x o e => by
    rcases b.new x o e with e | e | e
    · exact a.new x o e
    · exact .inr (.inl (a.there x e))
    · exact .inr (.inr e)
  keep := fun x o hx e => by
    refine b.keep x o (fun hb => ?_) (a.keep x o hx e)
    rcases hB x hb with z | z
    · exact hx z
    · rw [e] at z; cases z
  there := fun x e => a.there x (b.there x e)
theorem Step.trans0 {A : List Addr} {H G H1 G1 H2 G2 : Hp} (a : Step A H G H1 G1) (b : Step [] H1 G1 H2 G2) : Step A H G H2 G2 := a.trans b fun _ z => nomatch z
theorem Step.wide {A B : List Addr} {H G H1 G1 : Hp} (a : Step A H G H1 G1) (h : ∀ x ∈ A, x ∈ B) : Step B H G H1 G1 := ⟨a.sub, a.sub1, a.new, fun x o hx e => a.keep x o (fun z => hx (h x z)) e, a.there⟩
theorem Step.alloc {H G : Hp} {p : Addr} {o : HO} (h : Sub G H) (hp : H p = none) : Step [] H G (upd H p o) (upd G p o) where
  sub := fun a u e => by
    have ne : a ≠ p := fun z => by rw [z] at e; rw [h _ _ e] at hp; cases hp
    rw [upd_ne ne]; exact e
  sub1 := fun a u e => by
    by_cases z : a = p
    · rw [z, upd_same] at e
      rw [z, upd_same]; exact e
    · rw [upd_ne z] at e
      rw [upd_ne z]; exact h _ _ e
  new := fun a u e => by
    by_cases z : a = p
    · rw [z]; exact .inr (.inl hp)
    · rw [upd_ne z] at e
      exact .inl e
  keep := fun a u _ e => by rw [upd_ne (ne_of_none e hp)]; exact e
  there := fun a e => by
    by_cases z : a = p
    · rw [z, upd_same] at e; cases e
    · rw [upd_ne z] at e; exact e
theorem Step.allocO {H G : Hp} {p : Addr} {o : HO} (h : Sub G H) (hp : H p = none) : Step [] H G (upd H p o) G where
  sub := Sub.refl _
  sub1 := fun a u e => by rw [upd_ne (ne_of_none (h _ _ e) hp)]; exact h _ _ e
  new := fun a u e => .inl e
  keep := fun a u _ e => by rw [upd_ne (ne_of_none e hp)]; exact e
  there := fun a e => by
    by_cases z : a = p
    · rw [z, upd_same] at e; cases e
    · rw [upd_ne z] at e; exact e
theorem Step.write {H G : Hp} {p : Addr} {o o' : HO} (h : Sub G H) (hp : G p = none) (hq : H p = some o') : Step [p] H G (upd H p o) G where
  sub := Sub.refl _
  sub1 := fun a u e => by
    have ne : a ≠ p := fun z => by rw [z, hp] at e; cases e
    rw [upd_ne ne]; exact h _ _ e
  new := fun a u e => .inl e
  keep := fun a u ha e => by rw [upd_ne (fun z => ha (by rw [z]; exact List.mem_singleton.mpr rfl))]; exact e
  there := fun a e => by
    by_cases z : a = p
    · rw [z, upd_same] at e; cases e
    · rw [upd_ne z] at e; exact e
theorem Step.freeze {H G : Hp} {p : Addr} {o : HO} (h : Sub G H) (hp : G p = none) (hq : H p = some o) : Sub G (upd G p o) ∧ Sub (upd G p o) H := by
  constructor
  · intro a u e
    have ne : a ≠ p := fun z => by rw [z, hp] at e; cases e
    rw [upd_ne ne]; exact e
  · intro a u e
    by_cases z : a = p
    · rw [z, upd_same] at e
      rw [z, hq]; exact e
    · rw [upd_ne z] at e
      exact h _ _ e

end TreeL
end
section
namespace TreeL
open PySem PySem.Spec PyProof.Rows L2

inductive OS where
  | lst (xs : List PV)
  | dct (t : Bool) (kvs : List (PV × PV))
  | ins (k : Nat) (fs : List (Str × PV))
  | boxD (great : List Int) (fs : List (Str × Int))
  | boxL (great : List Int) (m : Int)
  | lof (xs : List PV) (ys : List PV)
  | pr (xs : List PV) (ys : List PV)
  | dol (kvs : List (Str × List PV))
  | scrT (ns : List Int)
  | boxF (great : List Int) (fs : List (Str × Int))
  deriving Inhabited
inductive Arg where
  | t (t : PV) | ow (o : OS)
  deriving Inhabited
abbrev En := List (Option Arg)
structure EX where
  k : Nat
  fs : List (Str × PV)
inductive Vl where
  | tr (t : PV) | sl (i : Nat)
  deriving Inhabited

inductive RE (α : Type) where
  | ok (a : α) (e : En) | exc (x : EX) (e : En) | bad
@[simp] def RE.bind {α β : Type} (r : RE α) (f : α → En → RE β) : RE β := match r with
  | .ok a e => f a e
  | .exc x e => .exc x e
  | .bad => .bad
def RE.Sat {α : Type} (P : α → En → Prop) (W : EX → En → Prop) : RE α → Prop
  | .ok a e => P a e
  | .exc x e => W x e
  | .bad => False
theorem Sat_bind {α β : Type} {r : RE α} {f : α → En → RE β} {P : β → En → Prop} {W : EX → En → Prop} : (r.bind f).Sat P W ↔ r.Sat (fun a e => (f a e).Sat P W) W := by
  cases r <;> rfl
theorem Sat_mono {α : Type} {r : RE α} {P P' : α → En → Prop} {W W' : EX → En → Prop} (h : r.Sat P W) (hP : ∀ a e, P a e → P' a e) (hW : ∀ x e, W x e → W' x e) : r.Sat P' W' := by
  cases r with
  | ok a e => exact hP _ _ h
  | exc x e => exact hW _ _ h
  | bad => exact h
@[simp] def ofO {α : Type} (o : Option α) (e : En) : RE α := match o with
  | some a => .ok a e
  | none => .bad
theorem Sat_ofO {α : Type} {o : Option α} {e : En} {P : α → En → Prop} {W : EX → En → Prop} : (ofO o e).Sat P W ↔ ∃ a, o = some a ∧ P a e := by
  cases o with
  | none => exact ⟨fun h => h.elim, fun ⟨_, e, _⟩ => nomatch e⟩
  | some a => exact ⟨fun h => ⟨a, rfl, h⟩, fun ⟨_, e, h⟩ => by cases e; exact h⟩

def WRep (c : TC) (G H : Hp) : PV → V → Prop
  | .lst xs, v => ∃ p vs, v = .ref p ∧ H p = some (.lst vs) ∧ RepL c G xs vs
  | .tup xs, v => ∃ p vs, v = .ref p ∧ SqP c.K G p vs ∧ RepL c G xs vs
  | .ins k fs, v => ∃ p dx gs, v = .ref p ∧ H p = some (.ins (c.C k) dx gs) ∧ RepF c G fs gs
  | .dct t kvs, v => ∃ p, v = .ref p ∧
      ((t = false ∧ ∃ ks, H p = some (.dK ks) ∧ RepK c G kvs ks) ∨ (t = true ∧ ∃ ks, H p = some (.dT ks) ∧ RepT c G kvs ks))
  | .scr ns, v => ∃ p, v = .ref p ∧ SqL c.K G p (ns.map V.int)
  | .cls k, v => v = .ref (c.C k)
  | .slc lo hi st, v => ∃ p vl vu vs, v = .ref p ∧ IsPart vl lo ∧ IsPart vu hi ∧ IsPart vs st ∧ G p = some (.frz { cls := .type "slice", data := .fields #[vl, vu, vs] } (.own p))
  | .non, v => v = .non
  | .bl b, v => v = .bl b
  | .int i, v => v = .int i
  | .str x, v => v = .str x ∧ StrG x
theorem Rep.w {c : TC} {G H : Hp} (s : Sub G H) : ∀ {t : PV} {v : V}, Rep c G t v → WRep c G H t v
  | .non, _, h => by simpa [Rep, WRep] using h
  | .bl _, _, h => by simpa [Rep, WRep] using h
  | .int _, _, h => by simpa [Rep, WRep] using h
  | .str _, _, h => by simpa [Rep, WRep] using h
  | .lst _, _, h => by
    simp only [Rep] at h
    obtain ⟨p, vs, a, b, r⟩ := h
    exact ⟨p, vs, a, s _ _ b, r⟩
  | .tup _, _, h => by
    simp only [Rep] at h
    obtain ⟨p, vs, a, b, r⟩ := h
    exact ⟨p, vs, a, b, r⟩
  | .ins _ _, _, h => by
    simp only [Rep] at h
    obtain ⟨p, dx, gs, a, b, r⟩ := h
    exact ⟨p, dx, gs, a, s _ _ b, r⟩
  | .dct _ _, _, h => by
    simp only [Rep] at h
    obtain ⟨p, a, h⟩ := h
    refine ⟨p, a, ?_⟩
    rcases h with ⟨t, ks, b, r⟩ | ⟨t, ks, b, r⟩
    · exact .inl ⟨t, ks, s _ _ b, r⟩
    · exact .inr ⟨t, ks, s _ _ b, r⟩
  | .scr _, _, h => by simpa [Rep, WRep] using h
  | .cls _, _, h => by simpa [Rep, WRep] using h
  | .slc _ _ _, _, h => by simpa [Rep, WRep] using h
theorem WRep.rep {c : TC} {G H : Hp} (s : Sub G H) : ∀ {t : PV} {v : V}, WRep c G H t v → Rep c H t v
  | .non, _, h => by simpa [Rep, WRep] using h
  | .bl _, _, h => by simpa [Rep, WRep] using h
  | .int _, _, h => by simpa [Rep, WRep] using h
  | .str _, _, h => by simpa [Rep, WRep] using h
  | .lst _, _, ⟨p, vs, a, b, r⟩ => by simp only [Rep]; exact ⟨p, vs, a, b, r.mono s⟩
  | .tup _, _, ⟨p, vs, a, b, r⟩ => by simp only [Rep]; exact ⟨p, vs, a, s.sqP b, r.mono s⟩
  | .ins _ _, _, ⟨p, dx, gs, a, b, r⟩ => by simp only [Rep]; exact ⟨p, dx, gs, a, b, r.mono s⟩
  | .dct _ _, _, ⟨p, a, h⟩ => by
    simp only [Rep]
    refine ⟨p, a, ?_⟩
    rcases h with ⟨t, ks, b, r⟩ | ⟨t, ks, b, r⟩
    · exact .inl ⟨t, ks, b, r.mono s⟩
    · exact .inr ⟨t, ks, b, r.mono s⟩
  | .scr _, _, ⟨p, a, h⟩ => by simp only [Rep]; exact ⟨p, a, s.sqL h⟩
  | .cls _, _, h => by simpa [Rep, WRep] using h
  | .slc _ _ _, _, ⟨p, vl, vu, vs, a, b1, b2, b3, g⟩ => by simp only [Rep]; exact ⟨p, vl, vu, vs, a, b1, b2, b3, s _ _ g⟩

def DolR (c : TC) (G H : Hp) : List (Str × List PV) → List Addr → List (Key × V) → Prop
  | [], qs, ks => qs = [] ∧ ks = []
  | (k, xs) :: r, qs, ks => ∃ q qs' ks' vs, qs = q :: qs' ∧ ks = (Sum.inr k, V.ref q) :: ks' ∧ H q = some (.lst vs) ∧ RepL c G xs vs ∧ DolR c G H r qs' ks'
theorem DolR.has {c : TC} {G H : Hp} : ∀ {kvs : List (Str × List PV)} {qs : List Addr} {ks : List (Key × V)}, DolR c G H kvs qs ks → ∀ a ∈ qs, ∃ u, H a = some u
  | [], _, _, ⟨e, _⟩ => fun a ha => by rw [e] at ha; cases ha
  | (k, xs) :: r, _, _, ⟨q, qs', ks', vs, e, _, h, _, t⟩ => fun a ha => by
    rw [e] at ha
    rcases List.mem_cons.mp ha with z | z
    · rw [z]; exact ⟨_, h⟩
    · exact t.has a z
theorem DolR.stay {c : TC} {G H G1 H1 : Hp} (s : Sub G G1) : ∀ {kvs : List (Str × List PV)} {qs : List Addr} {ks : List (Key × V)}, DolR c G H kvs qs ks → (∀ a ∈ qs, ∀ u, H a = some u → H1 a = some u) → DolR c G1 H1 kvs qs ks
  | [], _, _, h, _ => h
  | (k, xs) :: r, _, _, ⟨q, qs', ks', vs, e, e2, h, rx, t⟩, g => ⟨q, qs', ks', vs, e, e2, g q (by rw [e]; exact List.mem_cons_self) _ h, rx.mono s, t.stay s fun a ha => g a (by rw [e]; exact List.mem_cons_of_mem _ ha)⟩
def TabK (D : Addr → Prop) (H : Hp) (T : Addr) (q : Str) : Prop := ∃ vs : Array Value, H T = some (.tbl vs) ∧ TriplesOk vs.toList ∧
  ∀ (p : Pos) (w : Value), codeAmong p vs.toList = some w → ∃ k, w = .ref k ∧ D k ∧ H k = some (LamX.CodeO k q)
def TabG (G H : Hp) (T : Addr) (q : Str) : Prop := ∃ vs : Array Value, H T = some (.tbl vs) ∧ TriplesOk vs.toList ∧
  ∀ (p : Pos) (w : Value), codeAmong p vs.toList = some w → ∃ k, w = .ref k ∧ G k = some (LamX.CodeO k q)
def OwRep (c : TC) (G H : Hp) (p : Addr) (ad : List Addr) : OS → Prop
  | .lst xs => ad = [p] ∧ ∃ vs, H p = some (.lst vs) ∧ RepL c G xs vs
  | .dct t kvs => ad = [p] ∧ ((t = false ∧ ∃ ks, H p = some (.dK ks) ∧ RepK c G kvs ks) ∨ (t = true ∧ ∃ ks, H p = some (.dT ks) ∧ RepT c G kvs ks))
  | .ins k fs => ad = [p] ∧ ∃ dx gs, H p = some (.ins (c.C k) dx gs) ∧ RepF c G fs gs
  | .boxD great fs => ∃ q, ad = [p, q] ∧ p ≠ q ∧ H q = some (.lst (great.map V.int)) ∧ H p = some (.dK ((Sum.inr "great", V.ref q) :: fs.map fun f => (Sum.inr f.1, V.int f.2)))
  | .boxL great m => ∃ q, ad = [p, q] ∧ p ≠ q ∧ H q = some (.lst (great.map V.int)) ∧ H p = some (.lst [V.ref q, V.int m])
  | .lof xs ys => ∃ q us vs, ad = [p, q] ∧ p ≠ q ∧ H p = some (.lst (us ++ [V.ref q])) ∧ RepL c G xs us ∧ H q = some (.lst vs) ∧ RepL c G ys vs
  | .pr xs ys => ∃ a b us vs, ad = [p, a, b] ∧ a ≠ b ∧ H p = some (.tup [V.ref a, V.ref b]) ∧ H a = some (.lst us) ∧ RepL c G xs us ∧ H b = some (.lst vs) ∧ RepL c G ys vs
  | .dol kvs => ∃ qs ks, ad = p :: qs ∧ (p :: qs).Nodup ∧ H p = some (.dK ks) ∧ DolR c G H kvs qs ks
  | .scrT ns => ad = [c.tab] ∧ Rep c G (.scr ns) (.ref p) ∧ TabG G H c.tab c.lam
  | .boxF great fs => ∃ a q, ad = [a, q] ∧ a ≠ q ∧ H q = some (.lst (great.map V.int)) ∧ H a = some (.dK ((Sum.inr "great", V.ref q) :: fs.map fun f => (Sum.inr f.1, V.int f.2)))
def SlotRep (c : TC) (G H : Hp) (ad : List Addr) : Option Arg → Option V → Prop
  | none, _ => ad = []
  | some (.t t), some v => ad = [] ∧ Rep c G t v
  | some (.t _), none => False
  | some (.ow o), some v => ∃ p, v = .ref p ∧ OwRep c G H p ad o
  | some (.ow _), none => False

theorem OwRep.has {c : TC} {G H : Hp} {p : Addr} {ad : List Addr} : ∀ {o : OS}, OwRep c G H p ad o → ∀ a ∈ ad, ∃ u, H a = some u
  | .lst xs, ⟨e, vs, h, _⟩ => fun a ha => by rw [e] at ha; rw [List.mem_singleton.mp ha]; exact ⟨_, h⟩
  | .dct t kvs, ⟨e, h⟩ => fun a ha => by
    rw [e] at ha; rw [List.mem_singleton.mp ha]
    rcases h with ⟨_, ks, h, _⟩ | ⟨_, ks, h, _⟩ <;> exact ⟨_, h⟩
  | .ins k fs, ⟨e, dx, gs, h, _⟩ => fun a ha => by rw [e] at ha; rw [List.mem_singleton.mp ha]; exact ⟨_, h⟩
  | .boxD great fs, ⟨q, e, _, h1, h2⟩ => fun a ha => by
    rw [e] at ha
    simp at ha
    rcases ha with rfl | rfl
    · exact ⟨_, h2⟩
    · exact ⟨_, h1⟩
  | .boxL great fs, ⟨q, e, _, h1, h2⟩ => fun a ha => by
    rw [e] at ha
    simp at ha
    rcases ha with rfl | rfl
    · exact ⟨_, h2⟩
    · exact ⟨_, h1⟩
  | .lof xs ys, ⟨q, us, vs, e, _, h1, _, h2, _⟩ => fun a ha => by
    rw [e] at ha
    simp at ha
    rcases ha with rfl | rfl
    · exact ⟨_, h1⟩
    · exact ⟨_, h2⟩
  | .pr xs ys, ⟨q, q2, us, vs, e, _, h1, h2, _, h3, _⟩ => fun a ha => by
    rw [e] at ha
    simp at ha
    rcases ha with rfl | rfl | rfl
    · exact ⟨_, h1⟩
    · exact ⟨_, h2⟩
    · exact ⟨_, h3⟩
  | .dol kvs, ⟨qs, ks, e, _, h1, h2⟩ => fun a ha => by
    rw [e] at ha
    rcases List.mem_cons.mp ha with z | z
    · rw [z]; exact ⟨_, h1⟩
    · exact h2.has a z
  | .scrT ns, ⟨e, _, vs, h, _⟩ => fun a ha => by rw [e] at ha; rw [List.mem_singleton.mp ha]; exact ⟨_, h⟩
  | .boxF great fs, ⟨b, q, e, _, h1, h2⟩ => fun a ha => by
    rw [e] at ha
    simp at ha
    rcases ha with rfl | rfl
    · exact ⟨_, h2⟩
    · exact ⟨_, h1⟩
theorem nk_ref {a b : Addr} : ¬ IsKey (.tup [V.ref a, V.ref b]) := fun ⟨ks, e⟩ => by
  injection e with e
  cases ks with
  | nil => cases e
  | cons k ks => cases k <;> cases e
theorem DolR.nk {c : TC} {G H : Hp} : ∀ {kvs : List (Str × List PV)} {qs : List Addr} {ks : List (Key × V)}, DolR c G H kvs qs ks → ∀ a ∈ qs, ∀ u, H a = some u → ¬ IsKey u
  | [], _, _, ⟨e, _⟩ => fun a ha => by rw [e] at ha; cases ha
  | (k, xs) :: r, _, _, ⟨q, qs', ks', vs, e, _, h, _, t⟩ => fun a ha u hu => by
    rw [e] at ha
    rcases List.mem_cons.mp ha with z | z
    · rw [z, h] at hu; cases hu; exact fun ⟨_, y⟩ => nomatch y
    · exact t.nk a z u hu
theorem OwRep.nk {c : TC} {G H : Hp} {p : Addr} {ad : List Addr} : ∀ {o : OS}, OwRep c G H p ad o → ∀ a ∈ ad, ∀ u, H a = some u → ¬ IsKey u
  | .lst xs, ⟨e, vs, h, _⟩ => fun a ha u hu => by rw [e] at ha; rw [List.mem_singleton.mp ha, h] at hu; cases hu; exact fun ⟨_, y⟩ => nomatch y
  | .dct t kvs, ⟨e, h⟩ => fun a ha u hu => by
    rw [e] at ha; rw [List.mem_singleton.mp ha] at hu
    rcases h with ⟨_, ks, h, _⟩ | ⟨_, ks, h, _⟩ <;> (rw [h] at hu; cases hu; exact fun ⟨_, y⟩ => nomatch y)
  | .ins k fs, ⟨e, dx, gs, h, _⟩ => fun a ha u hu => by rw [e] at ha; rw [List.mem_singleton.mp ha, h] at hu; cases hu; exact fun ⟨_, y⟩ => nomatch y
  | .boxD great fs, ⟨q, e, _, h1, h2⟩ => fun a ha u hu => by
    rw [e] at ha
    simp at ha
    rcases ha with rfl | rfl
    · rw [h2] at hu; cases hu; exact fun ⟨_, y⟩ => nomatch y
    · rw [h1] at hu; cases hu; exact fun ⟨_, y⟩ => nomatch y
  | .boxL great fs, ⟨q, e, _, h1, h2⟩ => fun a ha u hu => by
    rw [e] at ha
    simp at ha
    rcases ha with rfl | rfl
    · rw [h2] at hu; cases hu; exact fun ⟨_, y⟩ => nomatch y
    · rw [h1] at hu; cases hu; exact fun ⟨_, y⟩ => nomatch y
  | .lof xs ys, ⟨q, us, vs, e, _, h1, _, h2, _⟩ => fun a ha u hu => by
    rw [e] at ha
    simp at ha
    rcases ha with rfl | rfl
    · rw [h1] at hu; cases hu; exact fun ⟨_, y⟩ => nomatch y
    · rw [h2] at hu; cases hu; exact fun ⟨_, y⟩ => nomatch y
  | .pr xs ys, ⟨q, q2, us, vs, e, _, h1, h2, _, h3, _⟩ => fun a ha u hu => by
    rw [e] at ha
    simp at ha
    rcases ha with rfl | rfl | rfl
    · rw [h1] at hu; cases hu; exact nk_ref
    · rw [h2] at hu; cases hu; exact fun ⟨_, y⟩ => nomatch y
    · rw [h3] at hu; cases hu; exact fun ⟨_, y⟩ => nomatch y
  | .dol kvs, ⟨qs, ks, e, _, h1, h2⟩ => fun a ha u hu => by
    rw [e] at ha
    rcases List.mem_cons.mp ha with z | z
    · rw [z, h1] at hu; cases hu; exact fun ⟨_, y⟩ => nomatch y
    · exact h2.nk a z u hu
  | .scrT ns, ⟨e, _, vs, h, _⟩ => fun a ha u hu => by rw [e] at ha; rw [List.mem_singleton.mp ha, h] at hu; cases hu; exact fun ⟨_, y⟩ => nomatch y
  | .boxF great fs, ⟨b, q, e, _, h1, h2⟩ => fun a ha u hu => by
    rw [e] at ha
    simp at ha
    rcases ha with rfl | rfl
    · rw [h2] at hu; cases hu; exact fun ⟨_, y⟩ => nomatch y
    · rw [h1] at hu; cases hu; exact fun ⟨_, y⟩ => nomatch y
theorem OwRep.stay {c : TC} {G H G1 H1 : Hp} {p : Addr} {ad : List Addr} (s : Sub G G1) : ∀ {o : OS}, OwRep c G H p ad o → (∀ a ∈ ad, ∀ u, H a = some u → H1 a = some u) → OwRep c G1 H1 p ad o
  | .lst xs, ⟨e, vs, h, r⟩, k => ⟨e, vs, k p (by rw [e]; simp) _ h, r.mono s⟩
  | .dct t kvs, ⟨e, h⟩, k => by
    refine ⟨e, ?_⟩
    rcases h with ⟨t, ks, h, r⟩ | ⟨t, ks, h, r⟩
    · exact .inl ⟨t, ks, k p (by rw [e]; simp) _ h, r.mono s⟩
    · exact .inr ⟨t, ks, k p (by rw [e]; simp) _ h, r.mono s⟩
  | .ins _ fs, ⟨e, dx, gs, h, r⟩, k => ⟨e, dx, gs, k p (by rw [e]; simp) _ h, r.mono s⟩
  | .boxD great fs, ⟨q, e, n, h1, h2⟩, k => ⟨q, e, n, k q (by rw [e]; simp) _ h1, k p (by rw [e]; simp) _ h2⟩
  | .boxL great fs, ⟨q, e, n, h1, h2⟩, k => ⟨q, e, n, k q (by rw [e]; simp) _ h1, k p (by rw [e]; simp) _ h2⟩
  | .lof xs ys, ⟨q, us, vs, e, n, h1, r1, h2, r2⟩, k => ⟨q, us, vs, e, n, k p (by rw [e]; simp) _ h1, r1.mono s, k q (by rw [e]; simp) _ h2, r2.mono s⟩
  | .pr xs ys, ⟨a, b, us, vs, e, n, h0, h1, r1, h2, r2⟩, k => ⟨a, b, us, vs, e, n, k p (by rw [e]; simp) _ h0, k a (by rw [e]; simp) _ h1, r1.mono s, k b (by rw [e]; simp) _ h2, r2.mono s⟩
  | .dol kvs, ⟨qs, ks, e, n, h1, h2⟩, k => ⟨qs, ks, e, n, k p (by rw [e]; exact List.mem_cons_self) _ h1, h2.stay s fun a ha => k a (by rw [e]; exact List.mem_cons_of_mem _ ha)⟩
  | .boxF great fs, ⟨a, q, e, n, h1, h2⟩, k => ⟨a, q, e, n, k q (by rw [e]; simp) _ h1, k a (by rw [e]; simp) _ h2⟩
  | .scrT ns, ⟨e, r, vs, h, ok, all⟩, k => ⟨e, r.mono s, vs, k c.tab (by rw [e]; simp) _ h, ok, fun q w hw => by
    obtain ⟨y, e1, e2⟩ := all q w hw
    exact ⟨y, e1, s _ _ e2⟩⟩
theorem SlotRep.has {c : TC} {G H : Hp} {ad : List Addr} : ∀ {s : Option Arg} {v : Option V}, SlotRep c G H ad s v → ∀ a ∈ ad, ∃ u, H a = some u
  | none, _, h => fun a ha => by rw [show ad = [] from h] at ha; cases ha
  | some (.t t), some v, ⟨h, _⟩ => fun a ha => by rw [h] at ha; cases ha
  | some (.ow o), some v, ⟨p, _, h⟩ => h.has
theorem SlotRep.nk {c : TC} {G H : Hp} {ad : List Addr} : ∀ {s : Option Arg} {v : Option V}, SlotRep c G H ad s v → ∀ a ∈ ad, ∀ u, H a = some u → ¬ IsKey u
  | none, _, h => fun a ha => by rw [show ad = [] from h] at ha; cases ha
  | some (.t t), some v, ⟨h, _⟩ => fun a ha => by rw [h] at ha; cases ha
  | some (.ow o), some v, ⟨p, _, h⟩ => h.nk
theorem SlotRep.stay {c : TC} {G H G1 H1 : Hp} {ad : List Addr} (s : Sub G G1) : ∀ {sl : Option Arg} {v : Option V}, SlotRep c G H ad sl v → (∀ a ∈ ad, ∀ u, H a = some u → H1 a = some u) → SlotRep c G1 H1 ad sl v
  | none, _, h, _ => h
  | some (.t t), some v, ⟨h, r⟩, _ => ⟨h, r.mono s⟩
  | some (.ow o), some v, ⟨p, e, h⟩, k => ⟨p, e, h.stay s k⟩

structure Ref where
  H0 : Hp
  G0 : Hp
  A0 : List Addr
  pins : List (Nat × V × List Addr)

structure RS (c : TC) (r : Ref) (ads : Nat → List Addr) (G H : Hp) (σ : L2.St) (env : En) : Prop where
  step : Step r.A0 r.H0 r.G0 H G
  len : env.length = σ.length
  slot : ∀ i, SlotRep c G H (ads i) (env[i]?.join) (σ[i]?.join)
  own : ∀ i a, a ∈ ads i → G a = none ∧ ((i ∈ r.pins.map Prod.fst ∧ a ∈ r.A0) ∨ r.H0 a = none)
  disj : ∀ i j a, a ∈ ads i → a ∈ ads j → i = j
  pin : ∀ q ∈ r.pins, σ[q.1]? = some (some q.2.1) ∧ ads q.1 = q.2.2
section
variable {c : TC} {r : Ref} {ads : Nat → List Addr} {G H G1 H1 : Hp} {σ : L2.St} {env : En}
theorem RS.sub (R : RS c r ads G H σ env) : Sub G H := R.step.sub1
theorem RS.ownSome (R : RS c r ads G H σ env) {i : Nat} {a : Addr} (h : a ∈ ads i) : ∃ u, H a = some u := (R.slot i).has a h
theorem RS.next (R : RS c r ads G H σ env) (s : Step [] H G H1 G1) : RS c r ads G1 H1 σ env where
  step := R.step.trans0 s
  len := R.len
  slot := fun i => (R.slot i).stay s.sub fun a _ u e => s.keep a u (by simp) e
  own := fun i a h => by
    refine ⟨?_, (R.own i a h).2⟩
    cases e : G1 a with
    | none => rfl
    | some u =>
      rcases s.new a u e with z | z | z
      · rw [(R.own i a h).1] at z; cases z
      · obtain ⟨u', e'⟩ := R.ownSome h
        rw [z] at e'; cases e'
      · obtain ⟨u', e'⟩ := R.ownSome h
        have y := s.keep a u' (by simp) e'
        rw [s.sub1 _ _ e] at y
        cases y
        exact absurd z ((R.slot i).nk a h _ e')
  disj := R.disj
  pin := R.pin
end

structure Nxt (ads : Nat → List Addr) (G H : Hp) (ads1 : Nat → List Addr) (G1 H1 : Hp) : Prop where
  sub : Sub G G1
  hold : ∀ a o, H a = some o → (∀ j, a ∉ ads j) → H1 a = some o ∧ (∀ j, a ∉ ads1 j) ∧ (¬ IsKey o → G a = none → G1 a = none)
  there : ∀ a, H1 a = none → H a = none
theorem Nxt.refl (ads : Nat → List Addr) (G H : Hp) : Nxt ads G H ads G H := ⟨Sub.refl _, fun _ _ e n => ⟨e, n, fun _ => id⟩, fun _ e => e⟩
theorem Nxt.trans {ads ads1 ads2 : Nat → List Addr} {G H G1 H1 G2 H2 : Hp} (a : Nxt ads G H ads1 G1 H1) (b : Nxt ads1 G1 H1 ads2 G2 H2) : Nxt ads G H ads2 G2 H2 :=
  ⟨a.sub.trans b.sub, fun x o e n => let z := a.hold x o e n; let y := b.hold x o z.1 z.2.1; ⟨y.1, y.2.1, fun k q => y.2.2 k (z.2.2 k q)⟩, fun x e => a.there x (b.there x e)⟩
theorem Nxt.of {ads : Nat → List Addr} {G H G1 H1 : Hp} (s : Step [] H G H1 G1) : Nxt ads G H ads G1 H1 := ⟨s.sub, fun a o e n => ⟨s.keep a o (by simp) e, n, fun k q => by
  cases z : G1 a with
  | none => rfl
  | some u =>
    rcases s.new a u z with y | y | y
    · rw [q] at y; cases y
    · rw [e] at y; cases y
    · have w := s.keep a o (by simp) e
      rw [s.sub1 _ _ z] at w
      cases w
      exact absurd y k⟩, s.there⟩
theorem Nxt.know {ads ads1 : Nat → List Addr} {G H : Hp} {p : Addr} {ho : HO} (hp : G p = none) (ow : ∃ j, p ∈ ads j) (h : ∀ j a, a ∈ ads1 j → a ∈ ads j) : Nxt ads G H ads1 (upd G p ho) H := by
  refine ⟨fun a u e => ?_, fun a o e n => ⟨e, fun j m => n j (h j a m), fun _ q => ?_⟩, fun _ e => e⟩
  · have ne : a ≠ p := fun z => by rw [z, hp] at e; cases e
    rw [upd_ne ne]; exact e
  · have ne : a ≠ p := fun z => by
      obtain ⟨j, m⟩ := ow
      exact n j (by rw [z]; exact m)
    rw [upd_ne ne]; exact q
theorem Nxt.fresh {ads ads1 : Nat → List Addr} {G H G1 H1 : Hp} (s : Nxt ads G H ads1 G1 H1) {p : Addr} {ho : HO} (hp : G1 p = none) (hn : H p = none) : Nxt ads G H ads1 (upd G1 p ho) H1 := by
  refine ⟨fun a u e => ?_, fun a o e n => ?_, s.there⟩
  · have ne : a ≠ p := fun z => by rw [z] at e; rw [s.sub _ _ e] at hp; cases hp
    rw [upd_ne ne]; exact s.sub _ _ e
  · have ne : a ≠ p := fun z => by rw [z, hn] at e; cases e
    obtain ⟨z1, z2, z3⟩ := s.hold a o e n
    exact ⟨z1, z2, fun k q => by rw [upd_ne ne]; exact z3 k q⟩
theorem Nxt.less {ads ads1 ads2 : Nat → List Addr} {G H G1 H1 : Hp} (s : Nxt ads G H ads2 G1 H1) (h : ∀ j a, a ∈ ads1 j → a ∈ ads2 j) : Nxt ads G H ads1 G1 H1 :=
  ⟨s.sub, fun a o e n => let z := s.hold a o e n; ⟨z.1, fun j m => z.2.1 j (h j a m), z.2.2⟩, s.there⟩

def VRep (c : TC) (σ : L2.St) (G : Hp) : Vl → V → Prop
  | .tr t, v => Rep c G t v
  | .sl i, v => σ[i]? = some (some v)
theorem VRep.mono {c : TC} {σ : L2.St} {G G1 : Hp} (s : Sub G G1) : ∀ {x : Vl} {v : V}, VRep c σ G x v → VRep c σ G1 x v
  | .tr _, _, h => Rep.mono s h
  | .sl _, _, h => h
@[simp] def OS.tree : OS → Option PV
  | .lst xs => some (.lst xs)
  | .dct t kvs => some (.dct t kvs)
  | .ins k fs => some (.ins k fs)
  | _ => none
@[simp] def look (env : En) : Vl → Option PV
  | .tr t => some t
  | .sl i => match env[i]? with
    | some (some (.t t)) => some t
    | some (some (.ow o)) => o.tree
    | _ => none
theorem OwRep.w {c : TC} {G H : Hp} {p : Addr} {ad : List Addr} {t : PV} : ∀ {o : OS}, OwRep c G H p ad o → o.tree = some t → WRep c G H t (.ref p)
  | .lst xs, ⟨_, vs, h, r⟩, e => by cases e; exact ⟨p, vs, rfl, h, r⟩
  | .dct t kvs, ⟨_, h⟩, e => by cases e; exact ⟨p, rfl, h⟩
  | .ins _ fs, ⟨_, dx, gs, h, r⟩, e => by cases e; exact ⟨p, dx, gs, rfl, h, r⟩
  | .boxD _ _, _, e => by cases e
  | .boxL _ _, _, e => by cases e
  | .lof _ _, _, e => by cases e
  | .pr _ _, _, e => by cases e
  | .dol _, _, e => by cases e
  | .scrT _, _, e => by cases e
  | .boxF _ _, _, e => by cases e
theorem look_rep {c : TC} {r : Ref} {ads : Nat → List Addr} {G H : Hp} {σ : L2.St} {env : En} (R : RS c r ads G H σ env) : ∀ {x : Vl} {v : V} {t : PV}, VRep c σ G x v → look env x = some t → WRep c G H t v
  | .tr _, _, _, h, e => by cases e; exact Rep.w R.sub h
  | .sl i, v, t, h, e => by
    have s := R.slot i
    have hv : σ[i]? = some (some v) := h
    rw [hv] at s
    simp only [look] at e
    cases q : env[i]? with
    | none => rw [q] at e; cases e
    | some o =>
      rw [q] at e s
      cases o with
      | none => cases e
      | some a =>
        cases a with
        | t t' =>
          cases e
          exact Rep.w R.sub s.2
        | ow o =>
          obtain ⟨p, z, s⟩ := s
          cases z
          exact s.w e

abbrev EvE := En → RE Vl
abbrev EvT := En → RE Bool
abbrev EvA := En → RE (List Vl)
def VReps (c : TC) (σ : L2.St) (G : Hp) : List Vl → List V → Prop
  | [], vs => vs = []
  | x :: xs, vs => ∃ v r, vs = v :: r ∧ VRep c σ G x v ∧ VReps c σ G xs r
def RepX (c : TC) (G : Hp) (x : EX) (cls : Value) (d : Option Addr) (H : Hp) : Prop :=
  cls = .ref (c.C x.k) ∧ ((x.fs = [] ∧ d = none) ∨ ∃ dx gs, d = some dx ∧ G dx = some (.xd gs) ∧ RepF c G x.fs gs)
def XC (c : TC) (r : Ref) (W : WX) (G : Hp) (σ : L2.St) (x : EX) (env' : En) : Prop :=
  ∀ ads' G' H' cls d, RS c r ads' G' H' σ env' → Sub G G' → RepX c G' x cls d H' → W cls d σ H'
def TEof (c : TC) (r : Ref) (W : WX) (ev : EvE) : TE := fun σ H Q => ∃ ads G env, RS c r ads G H σ env ∧
  (ev env).Sat (fun x env' => ∀ ads' G' H' v, RS c r ads' G' H' σ env' → Nxt ads G H ads' G' H' → VRep c σ G' x v → Q v H') (XC c r W G σ)
def TTof (c : TC) (r : Ref) (W : WX) (ev : EvT) : TT := fun σ H Q => ∃ ads G env, RS c r ads G H σ env ∧
  (ev env).Sat (fun x env' => ∀ ads' G' H', RS c r ads' G' H' σ env' → Nxt ads G H ads' G' H' → Q x H') (XC c r W G σ)
def TAof (c : TC) (r : Ref) (W : WX) (ev : EvA) : TA := fun σ H Q => ∃ ads G env, RS c r ads G H σ env ∧
  (ev env).Sat (fun xs env' => ∀ ads' G' H' vs, RS c r ads' G' H' σ env' → Nxt ads G H ads' G' H' → VReps c σ G' xs vs → Q vs H') (XC c r W G σ)
theorem XC.weak {c : TC} {r : Ref} {W : WX} {G G1 : Hp} {σ : L2.St} {x : EX} {e : En} (h : XC c r W G σ x e) (s : Sub G G1) : XC c r W G1 σ x e :=
  fun ads' G' H' cls d R s' p => h ads' G' H' cls d R (s.trans s') p

section
variable {X : Cx}
theorem PE.imp {e : Expr} {t t' : TE} (h : PE X e t) (i : ∀ σ H Q, t' σ H Q → t σ H Q) : PE X e t' := ⟨fun pins s σ H Q I q => h.run pins s σ H Q I (i σ H Q q)⟩
theorem PT.imp {e : Expr} {t t' : TT} (h : PT X e t) (i : ∀ σ H Q, t' σ H Q → t σ H Q) : PT X e t' := ⟨fun pins s σ H Q I q => h.run pins s σ H Q I (i σ H Q q)⟩
theorem PW.imp {e : Expr} {t t' : TT} (h : PW X e t) (i : ∀ σ H Q, t' σ H Q → t σ H Q) : PW X e t' := ⟨fun w pins s σ H Q I q => h.run w pins s σ H Q I (i σ H Q q)⟩
theorem PA.imp {es : List Expr} {t t' : TA} (h : PA X es t) (i : ∀ σ H Q, t' σ H Q → t σ H Q) : PA X es t' := ⟨fun pos pins s σ H Q I q => h.run pos pins s σ H Q I (i σ H Q q)⟩
theorem PS.imp {st : Stmt} {t t' : TS} (h : PS X st t) (i : ∀ D σ H, t' D σ H → t D σ H) : PS X st t' := ⟨fun pins s σ H D I q => h.run pins s σ H D I (i D σ H q)⟩
theorem PSs.imp {st : List Stmt} {t t' : TS} (h : PSs X st t) (i : ∀ D σ H, t' D σ H → t D σ H) : PSs X st t' := ⟨fun pins s σ H D I q => h.run pins s σ H D I (i D σ H q)⟩
end

@[simp] def eVar (i : Nat) : EvE := fun env => match env[i]? with
  | some (some (.t t)) => .ok (.tr t) env
  | some (some (.ow _)) => .ok (.sl i) env
  | _ => .bad
@[simp] def eCon (t : PV) : EvE := fun env => .ok (.tr t) env
section
variable {X : Cx} {c : TC} {r : Ref} {W : WX}
theorem pt_var {i : Nat} {e : Expr} (h : PE X e (tVar i)) : PE X e (TEof c r W (eVar i)) := PE.imp h fun σ H Q ⟨ads, G, env, R, h⟩ => by
  have s := R.slot i
  simp only [eVar] at h
  cases q : env[i]? with
  | none => rw [q] at h; exact h.elim
  | some o =>
    rw [q] at h s
    cases o with
    | none => exact h.elim
    | some a =>
      cases a with
      | t t =>
        cases z : σ[i]?.join with
        | none => rw [z] at s; exact (show False from s).elim
        | some v =>
          rw [z] at s
          exact ⟨v, Option.join_eq_some_iff.mp z, h ads G H v R (Nxt.refl _ _ _) s.2⟩
      | ow o =>
        cases z : σ[i]?.join with
        | none => rw [z] at s; exact (show False from s).elim
        | some v =>
          have z' : σ[i]? = some (some v) := Option.join_eq_some_iff.mp z
          exact ⟨v, z', h ads G H v R (Nxt.refl _ _ _) z'⟩
theorem pt_con {t : PV} {v : V} {e : Expr} (h : PE X e (tC v)) (hr : ∀ G, Rep c G t v) : PE X e (TEof c r W (eCon t)) := PE.imp h fun σ H Q ⟨ads, G, env, R, h⟩ =>
  h ads G H v R (Nxt.refl _ _ _) (hr G)
theorem pt_int {i : Int} {j pos} : PE X (.Constant (.int i) j pos) (TEof c r W (eCon (.int i))) := pt_con pe_int fun _ => by simp [Rep]
theorem pt_bl {b : Bool} {j pos} : PE X (.Constant (.bool b) j pos) (TEof c r W (eCon (.bl b))) := pt_con pe_bl fun _ => by simp [Rep]
theorem pt_non {j pos} : PE X (.Constant .none j pos) (TEof c r W (eCon .non)) := pt_con pe_non fun _ => by simp [Rep]
theorem pt_str {x : Str} {j pos} (h : (decide (x.length ≤ sizeLine) && PyData.strOk x) = true := by decide +kernel) : PE X (.Constant (.str x) j pos) (TEof c r W (eCon (.str x))) := pt_con pe_str fun _ => by
  rw [Bool.and_eq_true, decide_eq_true_eq] at h
  simp only [Rep]; exact ⟨trivial, h⟩
end

def VOut (c : TC) (G H : Hp) (t : PV) (Q : VK) : Prop := ∀ v H' G', Step [] H G H' G' → Rep c G' t v → Q v H'
def rAny2 (X : Cx) (g : Value → Value → Sem Value) : R2 := fun x y H Q => ∃ r, OpR X g r ∧ r x y H Q
theorem opAny {X : Cx} {g : Value → Value → Sem Value} : OpR X g (rAny2 X g) := fun pins s σ H x y v u Q I r1 r2 ⟨r, h, q⟩ => h pins s σ H x y v u Q I r1 r2 q
def OpP (X : Cx) (c : TC) (g : Value → Value → Sem Value) (f : PV → PV → Option PV) : Prop :=
  ∀ G H t1 t2 t v1 v2 Q, f t1 t2 = some t → Sub G H → WRep c G H t1 v1 → WRep c G H t2 v2 → VOut c G H t Q → rAny2 X g v1 v2 H Q
def rAny1 (X : Cx) (g : Value → Sem Value) : V → Hp → VK → Prop := fun x H Q => ∃ r, UnR X g r ∧ r x H Q
theorem unAny {X : Cx} {g : Value → Sem Value} : UnR X g (rAny1 X g) := fun pins s σ H x v Q I r1 ⟨r, h, q⟩ => h pins s σ H x v Q I r1 q
def UnP (X : Cx) (c : TC) (g : Value → Sem Value) (f : PV → Option PV) : Prop :=
  ∀ G H t1 t v1 Q, f t1 = some t → Sub G H → WRep c G H t1 v1 → VOut c G H t Q → rAny1 X g v1 H Q
@[simp] def eBin (f : PV → PV → Option PV) (ea eb : EvE) : EvE := fun env => (ea env).bind fun a e1 => (eb e1).bind fun b e2 =>
  match look e2 a, look e2 b with
  | some x, some y => (ofO (f x y) e2).bind fun t e => .ok (.tr t) e
  | _, _ => .bad
section
variable {X : Cx} {c : TC} {r : Ref} {W : WX} {a b : Expr} {ea eb : EvE} {pos : Pos}
theorem bin_imp {g : Value → Value → Sem Value} {f : PV → PV → Option PV} (ho : OpP X c g f) {σ : L2.St} {H : Hp} {Q : VK} (h : TEof c r W (eBin f ea eb) σ H Q) : tOp (rAny2 X g) (TEof c r W ea) (TEof c r W eb) σ H Q := by
  obtain ⟨ads, G, env, R, h⟩ := h
  refine ⟨ads, G, env, R, Sat_mono (Sat_bind.mp h) (fun x e1 h1 ads1 G1 H1 v1 R1 s1 p1 => ?_) fun _ _ z => z⟩
  refine ⟨ads1, G1, e1, R1, Sat_mono (Sat_bind.mp h1) (fun y e2 h2 ads2 G2 H2 v2 R2 s2 p2 => ?_) fun x e z => z.weak s1.sub⟩
  cases q1 : look e2 x with
  | none => rw [q1] at h2; exact h2.elim
  | some t1 =>
    rw [q1] at h2
    cases q2 : look e2 y with
    | none => rw [q2] at h2; exact h2.elim
    | some t2 =>
      rw [q2] at h2
      obtain ⟨t, ht, h2⟩ := Sat_ofO.mp (Sat_bind.mp h2)
      exact ho G2 H2 t1 t2 t v1 v2 Q ht R2.sub (look_rep R2 (p1.mono s2.sub) q1) (look_rep R2 p2 q2) fun v H' G' st p => h2 ads2 G' H' v (R2.next st) ((s1.trans s2).trans (Nxt.of st)) p
theorem pt_bin {op : Operator} {f : PV → PV → Option PV} (ho : OpP X c (binaryOp op) f) (ha : PE X a (TEof c r W ea)) (hb : PE X b (TEof c r W eb)) : PE X (.BinOp a op b pos) (TEof c r W (eBin f ea eb)) :=
  PE.imp (pe_op opAny ha hb) fun _ _ _ h => bin_imp ho h
theorem pt_cmp {op : CmpOp} {f : PV → PV → Option PV} (ho : OpP X c (compareOp op) f) (ha : PE X a (TEof c r W ea)) (hb : PE X b (TEof c r W eb)) (hm : behindInMarks op b = false) : PE X (.Compare a [op] [b] pos) (TEof c r W (eBin f ea eb)) :=
  PE.imp (pe_cmpR opAny ha hb hm) fun _ _ _ h => bin_imp ho h
@[simp] def eUn (f : PV → Option PV) (ea : EvE) : EvE := fun env => (ea env).bind fun a e1 =>
  match look e1 a with
  | some x => (ofO (f x) e1).bind fun t e => .ok (.tr t) e
  | _ => .bad
theorem pt_un {op : UnaryOp} {f : PV → Option PV} (ho : UnP X c (unaryOp op) f) (ha : PE X a (TEof c r W ea)) : PE X (.UnaryOp op a pos) (TEof c r W (eUn f ea)) :=
  PE.imp (pe_un unAny ha) fun σ H Q ⟨ads, G, env, R, h⟩ => by
    refine ⟨ads, G, env, R, Sat_mono (Sat_bind.mp h) (fun x e1 h1 ads1 G1 H1 v1 R1 s1 p1 => ?_) fun _ _ z => z⟩
    cases q1 : look e1 x with
    | none => rw [q1] at h1; exact h1.elim
    | some t1 =>
      rw [q1] at h1
      obtain ⟨t, ht, h2⟩ := Sat_ofO.mp (Sat_bind.mp h1)
      exact ho G1 H1 t1 t v1 Q ht R1.sub (look_rep R1 p1 q1) fun v H' G' st p => h2 ads1 G' H' v (R1.next st) (s1.trans (Nxt.of st)) p
end
end TreeL
end
section
namespace TreeL
open PySem PySem.Spec PyProof.Rows L2

section
variable {c : TC} {r : Ref} {ads : Nat → List Addr} {G H : Hp} {σ : L2.St} {env : En}
theorem join_set_self {α : Type} {l : List (Option α)} {i : Nat} {x : Option α} (h : i < l.length) : (l.set i x)[i]?.join = x := by
  rw [List.getElem?_set_self h]; rfl
theorem join_set_ne {α : Type} {l : List (Option α)} {i j : Nat} {x : Option α} (h : i ≠ j) : (l.set i x)[j]?.join = l[j]?.join := by
  rw [List.getElem?_set_ne h]
theorem set_out {α : Type} {l : List α} {i : Nat} {x : α} (h : ¬ i < l.length) : l.set i x = l := List.set_eq_of_length_le (Nat.le_of_not_lt h)
theorem RS.set (R : RS c r ads G H σ env) {i : Nat} {t : PV} {v : V} (h : Rep c G t v) (hp : (r.pins.map Prod.fst).contains i = false) :
    RS c r (fun j => if j = i then [] else ads j) G H (σ.set i (some v)) (env.set i (some (.t t))) where
  step := R.step
  len := by simp [R.len]
  slot := fun j => by
    by_cases z : j = i
    · subst z
      by_cases lt : j < env.length
      · rw [join_set_self lt, join_set_self (by rw [← R.len]; exact lt), if_pos rfl]
        exact ⟨rfl, h⟩
      · rw [set_out lt, set_out (by rw [← R.len]; exact lt), if_pos rfl, List.getElem?_eq_none (Nat.le_of_not_lt lt)]
        exact rfl
    · rw [join_set_ne (Ne.symm z), join_set_ne (Ne.symm z), if_neg z]
      exact R.slot j
  own := fun j a ha => by
    by_cases z : j = i
    · rw [if_pos z] at ha; cases ha
    · rw [if_neg z] at ha; exact R.own j a ha
  disj := fun j k a ha hb => by
    by_cases z : j = i
    · rw [if_pos z] at ha; cases ha
    · rw [if_neg z] at ha
      by_cases z' : k = i
      · rw [if_pos z'] at hb; cases hb
      · rw [if_neg z'] at hb; exact R.disj j k a ha hb
  pin := fun q hq => by
    have ne : q.1 ≠ i := fun e => by
      have m : (r.pins.map Prod.fst).contains i = true := List.contains_iff_mem.mpr (by rw [← e]; exact List.mem_map_of_mem hq)
      rw [hp] at m; cases m
    rw [List.getElem?_set_ne (Ne.symm ne), if_neg ne]
    exact R.pin q hq
theorem RS.wipe (R : RS c r ads G H σ env) {i : Nat} (hp : (r.pins.map Prod.fst).contains i = false) :
    RS c r (fun j => if j = i then [] else ads j) G H (σ.set i none) (env.set i none) where
  step := R.step
  len := by simp [R.len]
  slot := fun j => by
    by_cases z : j = i
    · subst z
      by_cases lt : j < env.length
      · rw [join_set_self lt, if_pos rfl]
        exact rfl
      · rw [set_out lt, if_pos rfl, List.getElem?_eq_none (Nat.le_of_not_lt lt)]
        exact rfl
    · rw [join_set_ne (Ne.symm z), join_set_ne (Ne.symm z), if_neg z]
      exact R.slot j
  own := fun j a ha => by
    by_cases z : j = i
    · rw [if_pos z] at ha; cases ha
    · rw [if_neg z] at ha; exact R.own j a ha
  disj := fun j k a ha hb => by
    by_cases z : j = i
    · rw [if_pos z] at ha; cases ha
    · rw [if_neg z] at ha
      by_cases z' : k = i
      · rw [if_pos z'] at hb; cases hb
      · rw [if_neg z'] at hb; exact R.disj j k a ha hb
  pin := fun q hq => by
    have ne : q.1 ≠ i := fun e => by
      have m : (r.pins.map Prod.fst).contains i = true := List.contains_iff_mem.mpr (by rw [← e]; exact List.mem_map_of_mem hq)
      rw [hp] at m; cases m
    rw [List.getElem?_set_ne (Ne.symm ne), if_neg ne]
    exact R.pin q hq
theorem RS.setOwn (R : RS c r ads G H σ env) {i : Nat} {p : Addr} {ad : List Addr} {o : OS} (h : OwRep c G H p ad o) (hn : ∀ a ∈ ad, G a = none ∧ r.H0 a = none ∧ ∀ j, a ∉ ads j) (hp : (r.pins.map Prod.fst).contains i = false) (hi : i < env.length) :
    RS c r (fun j => if j = i then ad else ads j) G H (σ.set i (some (.ref p))) (env.set i (some (.ow o))) where
  step := R.step
  len := by simp [R.len]
  slot := fun j => by
    by_cases z : j = i
    · subst z
      rw [join_set_self hi, join_set_self (by rw [← R.len]; exact hi), if_pos rfl]
      exact ⟨p, rfl, h⟩
    · rw [join_set_ne (Ne.symm z), join_set_ne (Ne.symm z), if_neg z]
      exact R.slot j
  own := fun j a ha => by
    by_cases z : j = i
    · rw [if_pos z] at ha; exact ⟨(hn a ha).1, .inr (hn a ha).2.1⟩
    · rw [if_neg z] at ha; exact R.own j a ha
  disj := fun j k a ha hb => by
    by_cases z : j = i
    · rw [if_pos z] at ha
      by_cases z' : k = i
      · rw [z, z']
      · rw [if_neg z'] at hb; exact absurd hb ((hn a ha).2.2 k)
    · rw [if_neg z] at ha
      by_cases z' : k = i
      · rw [if_pos z'] at hb; exact absurd ha ((hn a hb).2.2 j)
      · rw [if_neg z'] at hb; exact R.disj j k a ha hb
  pin := fun q hq => by
    have ne : q.1 ≠ i := fun e => by
      have m : (r.pins.map Prod.fst).contains i = true := List.contains_iff_mem.mpr (by rw [← e]; exact List.mem_map_of_mem hq)
      rw [hp] at m; cases m
    rw [List.getElem?_set_ne (Ne.symm ne), if_neg ne]
    exact R.pin q hq
theorem RS.write (R : RS c r ads G H σ env) {i : Nat} {p a : Addr} {o : OS} {ho ho' : HO} (hs : σ[i]? = some (some (.ref p))) (ha : a ∈ ads i) (hH : H a = some ho) (h : OwRep c G (upd H a ho') p (ads i) o) :
    RS c r ads G (upd H a ho') σ (env.set i (some (.ow o))) where
  step := R.step.trans (Step.write R.sub (R.own i a ha).1 hH) fun x hx => by
    rw [List.mem_singleton.mp hx]
    rcases (R.own i a ha).2 with z | z
    · exact .inl z.2
    · exact .inr z
  len := by simp [R.len]
  slot := fun j => by
    have li : i < σ.length := (List.getElem?_eq_some_iff.mp hs).1
    by_cases z : j = i
    · subst z
      rw [join_set_self (by rw [R.len]; exact li), hs]
      exact ⟨p, rfl, h⟩
    · rw [join_set_ne (Ne.symm z)]
      refine (R.slot j).stay (Sub.refl _) fun b hb u e => ?_
      have ne : b ≠ a := fun q => z (R.disj j i a (by rw [← q]; exact hb) ha)
      rw [upd_ne ne]; exact e
  own := R.own
  disj := R.disj
  pin := R.pin
theorem RS.freeze (R : RS c r ads G H σ env) {i : Nat} {v : V} {o : OS} {t : PV} (hs : σ[i]? = some (some v)) (he : env[i]? = some (some (.ow o))) (ht : o.tree = some t) (hp : (r.pins.map Prod.fst).contains i = false) :
    ∃ G', Nxt ads G H (fun j => if j = i then [] else ads j) G' H ∧ Rep c G' t v ∧ RS c r (fun j => if j = i then [] else ads j) G' H σ (env.set i (some (.t t))) := by
  have s := R.slot i
  rw [hs, he] at s
  obtain ⟨p, rfl, s⟩ := s
  have w := s.w ht
  obtain ⟨ho, hH, had⟩ : ∃ ho, H p = some ho ∧ ads i = [p] := by
    cases o with
    | lst xs => exact ⟨_, s.2.choose_spec.1, s.1⟩
    | dct t kvs =>
      obtain ⟨e, h⟩ := s
      rcases h with ⟨_, ks, h, _⟩ | ⟨_, ks, h, _⟩ <;> exact ⟨_, h, e⟩
    | ins k fs =>
      obtain ⟨e, dx, gs, h, _⟩ := s
      exact ⟨_, h, e⟩
    | boxD _ _ => cases ht
    | boxL _ _ => cases ht
    | lof _ _ => cases ht
    | pr _ _ => cases ht
    | dol _ => cases ht
    | scrT _ => cases ht
    | boxF _ _ => cases ht
  have hpi : p ∈ ads i := by rw [had]; exact List.mem_singleton.mpr rfl
  have hG := (R.own i p hpi).1
  have hni : ¬ i ∈ r.pins.map Prod.fst := fun m => by rw [List.contains_iff_mem.mpr m] at hp; cases hp
  have hH0 : r.H0 p = none := by
    rcases (R.own i p hpi).2 with z | z
    · exact absurd z.1 hni
    · exact z
  obtain ⟨s1, s2⟩ := Step.freeze R.sub hG hH
  have li : i < σ.length := (List.getElem?_eq_some_iff.mp hs).1
  have hrep : Rep c (upd G p ho) t (.ref p) := by
    cases o with
    | lst xs =>
      cases ht
      obtain ⟨_, vs, h, rr⟩ := s
      rw [hH] at h; cases h
      simp only [Rep]
      exact ⟨p, vs, rfl, upd_same, rr.mono s1⟩
    | dct t kvs =>
      cases ht
      obtain ⟨_, h⟩ := s
      simp only [Rep]
      refine ⟨p, rfl, ?_⟩
      rcases h with ⟨z, ks, h, rr⟩ | ⟨z, ks, h, rr⟩
      · rw [hH] at h; cases h; exact .inl ⟨z, ks, upd_same, rr.mono s1⟩
      · rw [hH] at h; cases h; exact .inr ⟨z, ks, upd_same, rr.mono s1⟩
    | ins k fs =>
      cases ht
      obtain ⟨_, dx, gs, h, rr⟩ := s
      rw [hH] at h; cases h
      simp only [Rep]
      exact ⟨p, dx, gs, rfl, upd_same, rr.mono s1⟩
    | boxD _ _ => cases ht
    | boxL _ _ => cases ht
    | lof _ _ => cases ht
    | pr _ _ => cases ht
    | dol _ => cases ht
    | scrT _ => cases ht
    | boxF _ _ => cases ht
  refine ⟨upd G p ho, Nxt.know hG ⟨i, hpi⟩ (fun j a m => by by_cases q : j = i <;> simp [q] at m ⊢; exact m), hrep, ⟨⟨R.step.sub.trans s1, s2, fun a u e => ?_, R.step.keep, R.step.there⟩, by simp [R.len], fun j => ?_, fun j a ha => ?_, fun j k a ha hb => ?_, fun q hq => ?_⟩⟩
  · by_cases z : a = p
    · rw [z]; exact .inr (.inl hH0)
    · rw [upd_ne z] at e; exact R.step.new a u e
  · by_cases z : j = i
    · subst z
      rw [join_set_self (by rw [R.len]; exact li), if_pos rfl, hs]
      exact ⟨rfl, hrep⟩
    · rw [join_set_ne (Ne.symm z), if_neg z]
      exact (R.slot j).stay s1 fun _ _ _ e => e
  · by_cases z : j = i
    · rw [if_pos z] at ha; cases ha
    · rw [if_neg z] at ha
      refine ⟨?_, (R.own j a ha).2⟩
      have ne : a ≠ p := fun q => z (R.disj j i p (by rw [← q]; exact ha) hpi)
      rw [upd_ne ne]
      exact (R.own j a ha).1
  · by_cases z : j = i
    · rw [if_pos z] at ha; cases ha
    · rw [if_neg z] at ha
      by_cases z' : k = i
      · rw [if_pos z'] at hb; cases hb
      · rw [if_neg z'] at hb; exact R.disj j k a ha hb
  · have ne : q.1 ≠ i := fun e => hni (by rw [← e]; exact List.mem_map_of_mem hq)
    rw [if_neg ne]
    exact R.pin q hq
end

def frz (x : Vl) (env : En) : RE Vl := match x with
  | .tr t => .ok (.tr t) env
  | .sl i => match env[i]? with
    | some (some (.t t)) => .ok (.tr t) env
    | some (some (.ow o)) => (match o.tree with
      | some t => .ok (.tr t) (env.set i (some (.t t)))
      | none => .bad)
    | _ => .bad
@[simp] def eFrz (pn : List Nat) (ea : EvE) : EvE := fun env => (ea env).bind fun x e => match x with
  | .tr t => .ok (.tr t) e
  | .sl i => if pn.contains i then .bad else frz (.sl i) e
theorem frz_ok {c : TC} {r : Ref} {ads : Nat → List Addr} {G H : Hp} {σ : L2.St} {env : En} (R : RS c r ads G H σ env) {i : Nat} {v : V} (hv : σ[i]? = some (some v)) (hp : (r.pins.map Prod.fst).contains i = false)
    {P : Vl → En → Prop} {W : EX → En → Prop} (h : (frz (.sl i) env).Sat P W) : ∃ t e ads' G', P (.tr t) e ∧ Nxt ads G H ads' G' H ∧ Rep c G' t v ∧ RS c r ads' G' H σ e := by
  simp only [frz] at h
  cases q : env[i]? with
  | none => rw [q] at h; exact h.elim
  | some o =>
    rw [q] at h
    cases o with
    | none => exact h.elim
    | some a =>
      cases a with
      | t t =>
        have s := R.slot i
        rw [hv, q] at s
        exact ⟨t, env, ads, G, h, Nxt.refl _ _ _, s.2, R⟩
      | ow o =>
        cases z : o.tree with
        | none => simp only [z] at h; exact h.elim
        | some t =>
          simp only [z] at h
          obtain ⟨G', s, p, R'⟩ := R.freeze hv q z hp
          exact ⟨t, _, _, G', h, s, p, R'⟩
section
variable {X : Cx} {c : TC} {r : Ref} {W : WX} {a b e : Expr} {es rest : List Expr} {ea eb : EvE} {et eu : EvT} {el : EvA} {pos p : Pos}
theorem pt_frz {pn : List Nat} (hp : r.pins.map Prod.fst = pn) (ha : PE X a (TEof c r W ea)) : PE X a (TEof c r W (eFrz pn ea)) := PE.imp ha fun σ H Q ⟨ads, G, env, R, h⟩ => by
  refine ⟨ads, G, env, R, Sat_mono (Sat_bind.mp h) (fun x e1 h1 ads1 G1 H1 v1 R1 s1 p1 => ?_) fun _ _ z => z⟩
  cases x with
  | tr t => exact h1 ads1 G1 H1 v1 R1 s1 p1
  | sl i =>
    have h1' : (if pn.contains i then RE.bad else frz (.sl i) e1).Sat (fun x env' => ∀ ads' G' H' v, RS c r ads' G' H' σ env' → Nxt ads G H ads' G' H' → VRep c σ G' x v → Q v H') (XC c r W G σ) := h1
    cases q : pn.contains i with
    | true => rw [if_pos q] at h1'; exact h1'.elim
    | false =>
      rw [if_neg (by rw [q]; exact Bool.false_ne_true)] at h1'
      obtain ⟨t, e, ads', G', hP, s, pr, R'⟩ := frz_ok R1 (show σ[i]? = some (some v1) from p1) (by rw [hp]; exact q) h1'
      exact hP ads' G' H1 v1 R' (s1.trans s) pr

@[simp] def aNil : EvA := fun env => .ok [] env
@[simp] def aCons (ea : EvE) (el : EvA) : EvA := fun env => (ea env).bind fun x e1 => (el e1).bind fun xs e2 => .ok (x :: xs) e2
@[simp] def aStar (ea : EvE) (el : EvA) : EvA := fun env => (ea env).bind fun x e1 => match look e1 x with
  | some (.lst ts) => (el e1).bind fun xs e2 => .ok (ts.map Vl.tr ++ xs) e2
  | some (.tup ts) => (el e1).bind fun xs e2 => .ok (ts.map Vl.tr ++ xs) e2
  | _ => .bad
theorem ta_nil : PA X [] (TAof c r W aNil) := PA.imp pa_nil fun σ H Q ⟨ads, G, env, R, h⟩ => h ads G H [] R (Nxt.refl _ _ _) rfl
theorem VReps.mono {σ : L2.St} {G G1 : Hp} (s : Sub G G1) : ∀ {xs : List Vl} {vs : List V}, VReps c σ G xs vs → VReps c σ G1 xs vs
  | [], _, h => h
  | _ :: _, _, ⟨v, r, e, h, t⟩ => ⟨v, r, e, h.mono s, VReps.mono s t⟩
theorem ta_cons (ha : PE X e (TEof c r W ea)) (hr : PA X es (TAof c r W el)) (hs : starEach (e :: es) X.env = (false, eval e X.env) :: starEach es X.env := by rfl) : PA X (e :: es) (TAof c r W (aCons ea el)) :=
  PA.imp (pa_cons ha hr hs) fun σ H Q ⟨ads, G, env, R, h⟩ => by
    refine ⟨ads, G, env, R, Sat_mono (Sat_bind.mp h) (fun x e1 h1 ads1 G1 H1 v1 R1 s1 p1 => ?_) fun _ _ z => z⟩
    refine ⟨ads1, G1, e1, R1, Sat_mono (Sat_bind.mp h1) (fun xs e2 h2 ads2 G2 H2 v2 R2 s2 p2 => ?_) fun x e z => z.weak s1.sub⟩
    exact h2 ads2 G2 H2 (v1 :: v2) R2 (s1.trans s2) ⟨v1, v2, rfl, p1.mono s2.sub, p2⟩
theorem VReps.trs {σ : L2.St} {G : Hp} : ∀ {ts : List PV} {vs : List V}, RepL c G ts vs → VReps c σ G (ts.map Vl.tr) vs
  | [], _, h => h
  | _ :: _, _, ⟨v, r, e, h, t⟩ => ⟨v, r, e, h, VReps.trs t⟩
theorem VReps.append {σ : L2.St} {G : Hp} : ∀ {xs ys : List Vl} {vs ws : List V}, VReps c σ G xs vs → VReps c σ G ys ws → VReps c σ G (xs ++ ys) (vs ++ ws)
  | [], _, _, _, h, h' => by cases h; exact h'
  | _ :: _, _, _, _, ⟨v, r, e, h, t⟩, h' => by subst e; exact ⟨v, r ++ _, rfl, h, VReps.append t h'⟩
@[simp] def trees : List Vl → Option (List PV)
  | [] => some []
  | .tr t :: r => (trees r).map (t :: ·)
  | .sl _ :: _ => none
theorem trees_rep {σ : L2.St} {G : Hp} : ∀ {xs : List Vl} {vs : List V} {ts : List PV}, VReps c σ G xs vs → trees xs = some ts → RepL c G ts vs
  | [], _, _, h, e => by cases e; exact h
  | .tr t :: xs, _, ts, ⟨v, r, a, h, d⟩, e => by
    subst a
    simp only [trees] at e
    cases q : trees xs with
    | none => rw [q] at e; cases e
    | some us =>
      rw [q] at e
      cases e
      exact ⟨v, r, rfl, h, trees_rep d q⟩
  | .sl _ :: _, _, _, _, e => by cases e
def LIM : Nat := 1000000
theorem lim_line {n : Nat} (h : n ≤ LIM) : n ≤ sizeLine := Nat.le_trans h (by decide)
@[simp] def eTup (el : EvA) : EvE := fun env => (el env).bind fun xs e => match trees xs with
  | some ts => if ts.length ≤ LIM then .ok (.tr (.tup ts)) e else .bad
  | none => .bad
@[simp] def eLst (el : EvA) : EvE := fun env => (el env).bind fun xs e => match trees xs with
  | some ts => if ts.length ≤ LIM then .ok (.tr (.lst ts)) e else .bad
  | none => .bad
theorem pt_tup {x1} (h : PA X es (TAof c r W el)) : PE X (.Tuple es x1 pos) (TEof c r W (eTup el)) := PE.imp (pe_tup h) fun σ H Q ⟨ads, G, env, R, h⟩ => by
  refine ⟨ads, G, env, R, Sat_mono (Sat_bind.mp h) (fun xs e1 h1 ads1 G1 H1 v1 R1 s1 p1 => ?_) fun _ _ z => z⟩
  cases q : trees xs with
  | none => simp only [q] at h1; exact h1.elim
  | some ts =>
    simp only [q] at h1
    by_cases hl : ts.length ≤ LIM
    · rw [if_pos hl] at h1
      have rr := trees_rep p1 q
      refine ⟨by rw [rr.length]; exact lim_line hl, fun a ha => ?_⟩
      have st := Step.alloc (o := .tup v1) R1.sub ha
      refine h1 ads1 _ _ _ (R1.next st) (s1.trans (Nxt.of st)) ?_
      simp only [VRep, Rep]
      exact ⟨a, v1, rfl, .inl upd_same, rr.mono st.sub⟩
    · rw [if_neg hl] at h1; exact h1.elim
theorem pt_lst (h : PA X es (TAof c r W el)) : PE X (.List es pos) (TEof c r W (eLst el)) := PE.imp (pe_lst h) fun σ H Q ⟨ads, G, env, R, h⟩ => by
  refine ⟨ads, G, env, R, Sat_mono (Sat_bind.mp h) (fun xs e1 h1 ads1 G1 H1 v1 R1 s1 p1 => ?_) fun _ _ z => z⟩
  cases q : trees xs with
  | none => simp only [q] at h1; exact h1.elim
  | some ts =>
    simp only [q] at h1
    by_cases hl : ts.length ≤ LIM
    · rw [if_pos hl] at h1
      have rr := trees_rep p1 q
      refine ⟨by rw [rr.length]; exact lim_line hl, fun a ha => ?_⟩
      have st := Step.alloc (o := .lst v1) R1.sub ha
      refine h1 ads1 _ _ _ (R1.next st) (s1.trans (Nxt.of st)) ?_
      simp only [VRep, Rep]
      exact ⟨a, v1, rfl, upd_same, rr.mono st.sub⟩
    · rw [if_neg hl] at h1; exact h1.elim

@[simp] def tru : PV → Option Bool
  | .non => some false
  | .bl b => some b
  | .int i => some (i != 0)
  | .str y => some ((y.length : Int) != 0)
  | .lst xs => some (!xs.isEmpty)
  | .tup xs => some (!xs.isEmpty)
  | .dct false kvs => some (!kvs.isEmpty)
  | _ => none
theorem RepL.empty {G : Hp} {ts : List PV} {vs : List V} (h : RepL c G ts vs) : vs.isEmpty = ts.isEmpty := by
  cases ts with
  | nil => cases h; rfl
  | cons _ _ => obtain ⟨v, r, rfl, _⟩ := h; rfl
theorem RepK.empty {G : Hp} {ts : List (PV × PV)} {vs : List (Key × V)} (h : RepK c G ts vs) : vs.isEmpty = ts.isEmpty := by
  cases ts with
  | nil => cases h; rfl
  | cons x _ => obtain ⟨k, y⟩ := x; obtain ⟨q, v, r, rfl, _⟩ := h; rfl
theorem tru_rep {G H : Hp} {t : PV} {v : V} {k : Bool} (s : Sub G H) (h : WRep c G H t v) (e : tru t = some k) : TruV c.K v H k := by
  cases t with
  | non => cases h; cases e; rfl
  | bl b => cases h; cases e; rfl
  | int i => cases h; cases e; rfl
  | str x => obtain ⟨rfl, hx, _⟩ := h; cases e; exact ⟨hx, rfl⟩
  | lst xs => obtain ⟨p, vs, rfl, hx, rr⟩ := h; cases e; exact .inl ⟨vs, .inl (.inl hx), by rw [rr.empty]⟩
  | tup xs => obtain ⟨p, vs, rfl, hx, rr⟩ := h; cases e; exact .inr (.inl ⟨vs, s.sqT hx, by rw [rr.empty]⟩)
  | ins k fs => cases e
  | scr _ => cases e
  | cls _ => cases e
  | slc _ _ _ => cases e
  | dct t kvs =>
    obtain ⟨p, rfl, h⟩ := h
    cases t with
    | true => cases e
    | false =>
      cases e
      rcases h with ⟨_, ks, h, rr⟩ | ⟨z, _⟩
      · exact .inr (.inr ⟨ks, h, by rw [rr.empty]⟩)
      · cases z
@[simp] def tTru (ea : EvE) : EvT := fun env => (ea env).bind fun x e => match look e x with
  | some t => ofO (tru t) e
  | none => .bad
theorem tt_truth (hK : X.K = c.K) (ha : PE X a (TEof c r W ea)) (he : ∀ whole, isTrue a X.env whole = (do let v ← whole; standAt a.pos; holding [v] (truthy v)) := by intro _; rfl) : PT X a (TTof c r W (tTru ea)) :=
  PT.imp (pt_truth ha he) fun σ H Q ⟨ads, G, env, R, h⟩ => by
    refine ⟨ads, G, env, R, Sat_mono (Sat_bind.mp h) (fun x e1 h1 ads1 G1 H1 v1 R1 s1 p1 => ?_) fun _ _ z => z⟩
    cases q : look e1 x with
    | none => simp only [q] at h1; exact h1.elim
    | some t =>
      simp only [q] at h1
      obtain ⟨k, hk, h2⟩ := Sat_ofO.mp h1
      exact ⟨k, by rw [hK]; exact tru_rep R1.sub (look_rep R1 p1 q) hk, h2 ads1 G1 H1 R1 s1⟩
@[simp] def bOf (x : Vl) : Option Bool := match x with
  | .tr (.bl b) => some b
  | _ => none
theorem bOf_rep {σ : L2.St} {G : Hp} {x : Vl} {v : V} {b : Bool} (h : VRep c σ G x v) (e : bOf x = some b) : v = .bl b := by
  cases x with
  | sl i => cases e
  | tr t =>
    cases t with
    | bl b' => cases e; simpa [VRep, Rep] using h
    | _ => cases e
@[simp] def tBl (ea : EvE) : EvT := fun env => (ea env).bind fun x e => ofO (bOf x) e
theorem tt_cmp {op : CmpOp} {f : PV → PV → Option PV} (ho : OpP X c (compareOp op) f) (ha : PE X a (TEof c r W ea)) (hb : PE X b (TEof c r W eb)) (hm : behindInMarks op b = false) : PT X (.Compare a [op] [b] pos) (TTof c r W (tBl (eBin f ea eb))) :=
  PT.imp (pt_cmpR opAny ha hb hm) fun σ H Q ⟨ads, G, env, R, h⟩ => bin_imp ho ⟨ads, G, env, R, Sat_mono (Sat_bind.mp h) (fun x e1 h1 ads1 G1 H1 v1 R1 s1 p1 => by
    obtain ⟨k, hk, h2⟩ := Sat_ofO.mp h1
    exact ⟨k, bOf_rep p1 hk, h2 ads1 G1 H1 R1 s1⟩) fun _ _ z => z⟩
@[simp] def tNt (et : EvT) : EvT := fun env => (et env).bind fun b e => .ok (!b) e
theorem tt_not (ha : PT X a (TTof c r W et)) : PT X (.UnaryOp .Not a pos) (TTof c r W (tNt et)) := PT.imp (pt_not ha) fun σ H Q ⟨ads, G, env, R, h⟩ =>
  ⟨ads, G, env, R, Sat_mono (Sat_bind.mp h) (fun x e1 h1 ads1 G1 H1 R1 s1 => h1 ads1 G1 H1 R1 s1) fun _ _ z => z⟩
@[simp] def tAn (et eu : EvT) : EvT := fun env => (et env).bind fun b e => if b then eu e else .ok false e
@[simp] def tOrr (et eu : EvT) : EvT := fun env => (et env).bind fun b e => if b then .ok true e else eu e
theorem tw_and1 (ha : PT X a (TTof c r W et)) : PW X (.BoolOp .And [a] pos) (TTof c r W et) := pw_and1 ha
theorem tw_or1 (ha : PT X a (TTof c r W et)) : PW X (.BoolOp .Or [a] pos) (TTof c r W et) := pw_or1 ha
theorem tw_and (ha : PT X a (TTof c r W et)) (hb : PW X (.BoolOp .And (b :: rest) pos) (TTof c r W eu)) : PW X (.BoolOp .And (a :: b :: rest) pos) (TTof c r W (tAn et eu)) := PW.imp (pw_and ha hb) fun σ H Q ⟨ads, G, env, R, h⟩ => by
  refine ⟨ads, G, env, R, Sat_mono (Sat_bind.mp h) (fun x e1 h1 ads1 G1 H1 R1 s1 => ?_) fun _ _ z => z⟩
  cases x with
  | true => exact iteT ⟨ads1, G1, e1, R1, Sat_mono h1 (fun y e2 h2 ads2 G2 H2 R2 s2 => h2 ads2 G2 H2 R2 (s1.trans s2)) fun x e z => z.weak s1.sub⟩
  | false => exact iteF (h1 ads1 G1 H1 R1 s1)
theorem tw_or (ha : PT X a (TTof c r W et)) (hb : PW X (.BoolOp .Or (b :: rest) pos) (TTof c r W eu)) : PW X (.BoolOp .Or (a :: b :: rest) pos) (TTof c r W (tOrr et eu)) := PW.imp (pw_or ha hb) fun σ H Q ⟨ads, G, env, R, h⟩ => by
  refine ⟨ads, G, env, R, Sat_mono (Sat_bind.mp h) (fun x e1 h1 ads1 G1 H1 R1 s1 => ?_) fun _ _ z => z⟩
  cases x with
  | false => exact iteF ⟨ads1, G1, e1, R1, Sat_mono h1 (fun y e2 h2 ads2 G2 H2 R2 s2 => h2 ads2 G2 H2 R2 (s1.trans s2)) fun x e z => z.weak s1.sub⟩
  | true => exact iteT (h1 ads1 G1 H1 R1 s1)
theorem tt_w (h : PW X a (TTof c r W et)) : PT X a (TTof c r W et) := h.pt
@[simp] def eAnd (ea eb : EvE) : EvE := fun env => (ea env).bind fun x e => match (look e x).bind tru with
  | some true => eb e
  | some false => .ok x e
  | none => .bad
@[simp] def eOr (ea eb : EvE) : EvE := fun env => (ea env).bind fun x e => match (look e x).bind tru with
  | some false => eb e
  | some true => .ok x e
  | none => .bad
@[simp] def eNot (ea : EvE) : EvE := fun env => (ea env).bind fun x e => match (look e x).bind tru with
  | some k => .ok (.tr (.bl (!k))) e
  | none => .bad
theorem look_tru {ads : Nat → List Addr} {G H : Hp} {σ : L2.St} {env : En} (R : RS c r ads G H σ env) {x : Vl} {v : V} {k : Bool} (h : VRep c σ G x v) (e : (look env x).bind tru = some k) : TruV c.K v H k := by
  cases q : look env x with
  | none => rw [q] at e; cases e
  | some t => rw [q] at e; exact tru_rep R.sub (look_rep R h q) e
theorem pt_one {op} (ha : PE X a (TEof c r W ea)) : PE X (.BoolOp op [a] pos) (TEof c r W ea) := pe_one ha
theorem pt_and (hK : X.K = c.K) (ha : PE X a (TEof c r W ea)) (hb : PE X (.BoolOp .And (b :: rest) pos) (TEof c r W eb)) : PE X (.BoolOp .And (a :: b :: rest) pos) (TEof c r W (eAnd ea eb)) := PE.imp (pe_andT ha hb) fun σ H Q ⟨ads, G, env, R, h⟩ => by
  refine ⟨ads, G, env, R, Sat_mono (Sat_bind.mp h) (fun x e1 h1 ads1 G1 H1 v1 R1 s1 p1 => ?_) fun _ _ z => z⟩
  cases q : (look e1 x).bind tru with
  | none => simp only [q] at h1; exact h1.elim
  | some k =>
    refine ⟨k, by rw [hK]; exact look_tru R1 p1 q, ?_⟩
    simp only [q] at h1
    cases k with
    | true => exact iteT ⟨ads1, G1, e1, R1, Sat_mono h1 (fun y e2 h2 ads2 G2 H2 v2 R2 s2 p2 => h2 ads2 G2 H2 v2 R2 (s1.trans s2) p2) fun x e z => z.weak s1.sub⟩
    | false => exact iteF (h1 ads1 G1 H1 v1 R1 s1 p1)
@[simp] def eIf (et : EvT) (ea eb : EvE) : EvE := fun env => (et env).bind fun b e => if b then ea e else eb e
theorem pt_if {t : Expr} (ht : PT X t (TTof c r W et)) (ha : PE X a (TEof c r W ea)) (hb : PE X b (TEof c r W eb)) : PE X (.IfExp t a b pos) (TEof c r W (eIf et ea eb)) := PE.imp (pe_ifExp ht ha hb) fun σ H Q ⟨ads, G, env, R, h⟩ => by
  refine ⟨ads, G, env, R, Sat_mono (Sat_bind.mp h) (fun x e1 h1 ads1 G1 H1 R1 s1 => ?_) fun _ _ z => z⟩
  cases x with
  | true => exact iteT ⟨ads1, G1, e1, R1, Sat_mono h1 (fun y e2 h2 ads2 G2 H2 v2 R2 s2 p2 => h2 ads2 G2 H2 v2 R2 (s1.trans s2) p2) fun x e z => z.weak s1.sub⟩
  | false => exact iteF ⟨ads1, G1, e1, R1, Sat_mono h1 (fun y e2 h2 ads2 G2 H2 v2 R2 s2 p2 => h2 ads2 G2 H2 v2 R2 (s1.trans s2) p2) fun x e z => z.weak s1.sub⟩
end
end TreeL
end
section
namespace TreeL
open PySem PySem.Spec PyProof.Rows L2

abbrev EvF := En → RE OS
def New (r : Ref) (ads : Nat → List Addr) (G : Hp) (p : Addr) : Prop := G p = none ∧ r.H0 p = none ∧ ∀ j, p ∉ ads j
def TFof (c : TC) (r : Ref) (W : WX) (ev : EvF) : TE := fun σ H Q => ∃ ads G env, RS c r ads G H σ env ∧
  (ev env).Sat (fun o env' => ∀ ads' G' H' p ad, RS c r ads' G' H' σ env' → Nxt ads G H ads' G' H' → OwRep c G' H' p ad o → (∀ a ∈ ad, New r ads' G' a ∧ H a = none) → Q (.ref p) H') (XC c r W G σ)
abbrev EvR := En → RE Arg
def ResNew (c : TC) (r : Ref) (ads' : Nat → List Addr) (G' H H' : Hp) : Arg → V → Prop
  | .t t, v => Rep c G' t v
  | .ow o, v => ∃ p ad, v = .ref p ∧ OwRep c G' H' p ad o ∧ ∀ a ∈ ad, New r ads' G' a ∧ H a = none
def TRof (c : TC) (r : Ref) (W : WX) (ev : EvR) : TE := fun σ H Q => ∃ ads G env, RS c r ads G H σ env ∧
  (ev env).Sat (fun o env' => ∀ ads' G' H' v, RS c r ads' G' H' σ env' → Nxt ads G H ads' G' H' → ResNew c r ads' G' H H' o v → Q v H') (XC c r W G σ)
@[simp] def eRes (ev : EvR) : EvE := fun env => (ev env).bind fun a e => match a with
  | .t t => .ok (.tr t) e
  | .ow o => match o.tree with
    | some t => .ok (.tr t) e
    | none => .bad
@[simp] def fRes (ev : EvR) : EvF := fun env => (ev env).bind fun a e => match a with
  | .t _ => .bad
  | .ow o => .ok o e
@[simp] def eOf (ef : EvF) : EvE := fun env => (ef env).bind fun o e => match o.tree with
  | some t => .ok (.tr t) e
  | none => .bad
section
variable {c : TC} {r : Ref} {ads : Nat → List Addr} {G H : Hp} {σ : L2.St} {env : En}
theorem OwRep.ad {p : Addr} {ad : List Addr} {o : OS} {t : PV} (h : OwRep c G H p ad o) (ht : o.tree = some t) : ad = [p] := by
  cases o with
  | lst xs => exact h.1
  | dct t kvs => exact h.1
  | ins k fs => exact h.1
  | boxD _ _ => cases ht
  | boxL _ _ => cases ht
  | lof _ _ => cases ht
  | pr _ _ => cases ht
  | dol _ => cases ht
  | scrT _ => cases ht
  | boxF _ _ => cases ht
theorem OwRep.one {p : Addr} {ad : List Addr} {o : OS} {t : PV} (h : OwRep c G H p ad o) (ht : o.tree = some t) : ∃ ho, H p = some ho := h.has p (by rw [h.ad ht]; exact List.mem_singleton.mpr rfl)
theorem OwRep.known {p : Addr} {ad : List Addr} {o : OS} {t : PV} {ho : HO} (h : OwRep c G H p ad o) (ht : o.tree = some t) (hp : H p = some ho) (s : Sub G (upd G p ho)) : Rep c (upd G p ho) t (.ref p) := by
  cases o with
  | lst xs =>
    cases ht
    obtain ⟨_, vs, h, rr⟩ := h
    rw [hp] at h; cases h
    simp only [Rep]
    exact ⟨p, vs, rfl, upd_same, rr.mono s⟩
  | dct t kvs =>
    cases ht
    obtain ⟨_, h⟩ := h
    simp only [Rep]
    refine ⟨p, rfl, ?_⟩
    rcases h with ⟨z, ks, h, rr⟩ | ⟨z, ks, h, rr⟩
    · rw [hp] at h; cases h; exact .inl ⟨z, ks, upd_same, rr.mono s⟩
    · rw [hp] at h; cases h; exact .inr ⟨z, ks, upd_same, rr.mono s⟩
  | ins k fs =>
    cases ht
    obtain ⟨_, dx, gs, h, rr⟩ := h
    rw [hp] at h; cases h
    simp only [Rep]
    exact ⟨p, dx, gs, rfl, upd_same, rr.mono s⟩
  | boxD _ _ => cases ht
  | boxL _ _ => cases ht
  | lof _ _ => cases ht
  | pr _ _ => cases ht
  | dol _ => cases ht
  | scrT _ => cases ht
  | boxF _ _ => cases ht
theorem RS.know (R : RS c r ads G H σ env) {p : Addr} {ho : HO} (hp : H p = some ho) (hn : New r ads G p) : Sub G (upd G p ho) ∧ RS c r ads (upd G p ho) H σ env := by
  obtain ⟨s1, s2⟩ := Step.freeze R.sub hn.1 hp
  refine ⟨s1, ⟨⟨R.step.sub.trans s1, s2, fun a u e => ?_, R.step.keep, R.step.there⟩, R.len, fun j => (R.slot j).stay s1 fun _ _ _ e => e, fun j a ha => ⟨?_, (R.own j a ha).2⟩, R.disj, R.pin⟩⟩
  · by_cases z : a = p
    · rw [z]; exact .inr (.inl hn.2.1)
    · rw [upd_ne z] at e; exact R.step.new a u e
  · have ne : a ≠ p := fun q => hn.2.2 j (by rw [← q]; exact ha)
    rw [upd_ne ne]
    exact (R.own j a ha).1
theorem New.of (R : RS c r ads G H σ env) {p : Addr} (hp : H p = none) : New r ads G p := by
  refine ⟨?_, R.step.there p hp, fun j hj => ?_⟩
  · cases e : G p with
    | none => rfl
    | some u =>
      have z := R.sub _ _ e
      rw [hp] at z; cases z
  · obtain ⟨u, e⟩ := R.ownSome hj
    rw [hp] at e; cases e
theorem RS.lay (R : RS c r ads G H σ env) {p : Addr} {ho : HO} (hp : H p = none) : RS c r ads G (upd H p ho) σ env := R.next (Step.allocO R.sub hp)
end
section
variable {X : Cx} {c : TC} {r : Ref} {W : WX} {a b e : Expr} {es rest : List Expr} {ea eb : EvE} {et eu : EvT} {el : EvA} {ef : EvF} {pos p : Pos}
theorem pt_of (h : PE X e (TFof c r W ef)) : PE X e (TEof c r W (eOf ef)) := PE.imp h fun σ H Q ⟨ads, G, env, R, h⟩ => by
  refine ⟨ads, G, env, R, Sat_mono (Sat_bind.mp h) (fun o e1 h1 ads1 G1 H1 p1 ad R1 s1 ow nw => ?_) fun _ _ z => z⟩
  cases q : o.tree with
  | none => simp only [q] at h1; exact h1.elim
  | some t =>
    simp only [q] at h1
    obtain ⟨ho, hp⟩ := ow.one q
    have n1 := nw p1 (by rw [ow.ad q]; exact List.mem_singleton.mpr rfl)
    obtain ⟨s2, R2⟩ := R1.know hp n1.1
    exact h1 ads1 _ H1 (.ref p1) R2 (s1.fresh n1.1.1 n1.2) (ow.known q hp s2)
theorem pt_res {er : EvR} (h : PE X e (TRof c r W er)) : PE X e (TEof c r W (eRes er)) := PE.imp h fun σ H Q ⟨ads, G, env, R, h⟩ => by
  refine ⟨ads, G, env, R, Sat_mono (Sat_bind.mp h) (fun o e1 h1 ads1 G1 H1 v1 R1 s1 ow => ?_) fun _ _ z => z⟩
  cases o with
  | t t => exact h1 ads1 G1 H1 v1 R1 s1 ow
  | ow o =>
    obtain ⟨p1, ad, rfl, ow, nw⟩ := ow
    cases q : o.tree with
    | none => simp only [q] at h1; exact h1.elim
    | some t =>
      simp only [q] at h1
      obtain ⟨ho, hp⟩ := ow.one q
      have n1 := nw p1 (by rw [ow.ad q]; exact List.mem_singleton.mpr rfl)
      obtain ⟨s2, R2⟩ := R1.know hp n1.1
      exact h1 ads1 _ H1 (.ref p1) R2 (s1.fresh n1.1.1 n1.2) (ow.known q hp s2)
theorem pf_res {er : EvR} (h : PE X e (TRof c r W er)) : PE X e (TFof c r W (fRes er)) := PE.imp h fun σ H Q ⟨ads, G, env, R, h⟩ => by
  refine ⟨ads, G, env, R, Sat_mono (Sat_bind.mp h) (fun o e1 h1 ads1 G1 H1 v1 R1 s1 ow => ?_) fun _ _ z => z⟩
  cases o with
  | t t => exact h1.elim
  | ow o =>
    obtain ⟨p1, ad, rfl, ow, nw⟩ := ow
    exact h1 ads1 G1 H1 p1 ad R1 s1 ow nw
@[simp] def fLst (el : EvA) : EvF := fun env => (el env).bind fun xs e => match trees xs with
  | some ts => if ts.length ≤ LIM then .ok (.lst ts) e else .bad
  | none => .bad
theorem pf_lst (h : PA X es (TAof c r W el)) : PE X (.List es pos) (TFof c r W (fLst el)) := PE.imp (pe_lst h) fun σ H Q ⟨ads, G, env, R, h⟩ => by
  refine ⟨ads, G, env, R, Sat_mono (Sat_bind.mp h) (fun xs e1 h1 ads1 G1 H1 v1 R1 s1 p1 => ?_) fun _ _ z => z⟩
  cases q : trees xs with
  | none => simp only [q] at h1; exact h1.elim
  | some ts =>
    simp only [q] at h1
    by_cases hl : ts.length ≤ LIM
    · rw [if_pos hl] at h1
      have rr := trees_rep p1 q
      refine ⟨by rw [rr.length]; exact lim_line hl, fun a ha => ?_⟩
      exact h1 ads1 G1 _ a [a] (R1.lay ha) (s1.trans (Nxt.of (Step.allocO R1.sub ha))) ⟨rfl, v1, upd_same, rr⟩ fun b hb => by rw [List.mem_singleton.mp hb]; exact ⟨New.of R1 ha, s1.there a ha⟩
    · rw [if_neg hl] at h1; exact h1.elim
end

inductive SO where
  | nx (e : En) | rt (t : Arg) (e : En) | bk (e : En) | ct (e : En) | exc (x : EX) (e : En) | bad
abbrev EvS := En → SO
structure SK where
  nx : En → Prop
  rt : Arg → En → Prop
  bk : En → Prop
  ct : En → Prop
  ex : EX → En → Prop
def SO.Sat (k : SK) : SO → Prop
  | .nx e => k.nx e
  | .rt t e => k.rt t e
  | .bk e => k.bk e
  | .ct e => k.ct e
  | .exc x e => k.ex x e
  | .bad => False
@[simp] def SO.bind (s : SO) (f : En → SO) : SO := match s with
  | .nx e => f e
  | s => s
theorem SO.Sat_bind {s : SO} {f : En → SO} {k : SK} : (s.bind f).Sat k ↔ s.Sat { k with nx := fun e => (f e).Sat k } := by
  cases s <;> rfl
theorem SO.Sat_mono {s : SO} {k k' : SK} (h : s.Sat k) (h1 : ∀ e, k.nx e → k'.nx e) (h2 : ∀ t e, k.rt t e → k'.rt t e) (h3 : ∀ e, k.bk e → k'.bk e) (h4 : ∀ e, k.ct e → k'.ct e) (h5 : ∀ x e, k.ex x e → k'.ex x e) : s.Sat k' := by
  cases s with
  | nx e => exact h1 e h
  | rt t e => exact h2 t e h
  | bk e => exact h3 e h
  | ct e => exact h4 e h
  | exc x e => exact h5 x e h
  | bad => exact h
@[simp] def RE.so {α : Type} (x : RE α) (f : α → En → SO) : SO := match x with
  | .ok a e => f a e
  | .exc x e => .exc x e
  | .bad => .bad
theorem RE.so_Sat {α : Type} {x : RE α} {f : α → En → SO} {k : SK} : (x.so f).Sat k ↔ x.Sat (fun a e => (f a e).Sat k) k.ex := by
  cases x <;> rfl
def RetRep (c : TC) (H0 : Hp) (G' H' : Hp) : Arg → V → Prop
  | .t t, v => Rep c G' t v
  | .ow o, v => ∃ p ad, v = .ref p ∧ OwRep c G' H' p ad o ∧ ∀ a ∈ ad, G' a = none ∧ H0 a = none
def Kof (c : TC) (r : Ref) (W : WX) (G : Hp) (D : Ends) : SK where
  nx := fun env' => ∀ ads' G' H' σ', RS c r ads' G' H' σ' env' → Sub G G' → D.nx σ' H'
  rt := fun t env' => ∀ ads' G' H' σ' v, RS c r ads' G' H' σ' env' → Sub G G' → RetRep c r.H0 G' H' t v → D.rt v H'
  bk := fun env' => ∀ ads' G' H' σ', RS c r ads' G' H' σ' env' → Sub G G' → D.bk σ' H'
  ct := fun env' => ∀ ads' G' H' σ', RS c r ads' G' H' σ' env' → Sub G G' → D.ct σ' H'
  ex := fun x env' => ∀ ads' G' H' σ' cls d, RS c r ads' G' H' σ' env' → Sub G G' → RepX c G' x cls d H' → W cls d σ' H'
def TSof (c : TC) (r : Ref) (W : WX) (ex : EvS) : TS := fun D σ H => ∃ ads G env, RS c r ads G H σ env ∧ (ex env).Sat (Kof c r W G D)
theorem Kof.weak {c : TC} {r : Ref} {W : WX} {G G1 : Hp} {D : Ends} (s : Sub G G1) {o : SO} (h : o.Sat (Kof c r W G D)) : o.Sat (Kof c r W G1 D) :=
  SO.Sat_mono h (fun e h a b d σ R s' => h a b d σ R (s.trans s')) (fun t e h a b d σ v R s' => h a b d σ v R (s.trans s')) (fun e h a b d σ R s' => h a b d σ R (s.trans s')) (fun e h a b d σ R s' => h a b d σ R (s.trans s'))
    fun x e h a b d σ cls dd R s' => h a b d σ cls dd R (s.trans s')
theorem XC.of {c : TC} {r : Ref} {W : WX} {G : Hp} {D : Ends} {σ : L2.St} {x : EX} {e : En} (h : (Kof c r W G D).ex x e) : XC c r W G σ x e := fun a b d cls dd R s p => h a b d σ cls dd R s p
@[simp] def sSkip : EvS := fun env => .nx env
@[simp] def sSeq (x y : EvS) : EvS := fun env => (x env).bind y
section
variable {X : Cx} {c : TC} {r : Ref} {W : WX} {st : Stmt} {sts : List Stmt} {xs ys : EvS} {e : Expr} {ea : EvE} {et : EvT} {pos : Pos}
theorem tss_nil : PSs X [] (TSof c r W sSkip) := PSs.imp pss_nil fun D σ H ⟨ads, G, env, R, h⟩ => h ads G H σ R (Sub.refl _)
theorem tss_cons (h1 : PS X st (TSof c r W xs)) (h2 : PSs X sts (TSof c r W ys)) : PSs X (st :: sts) (TSof c r W (sSeq xs ys)) := PSs.imp (pss_cons h1 h2) fun D σ H ⟨ads, G, env, R, h⟩ =>
  ⟨ads, G, env, R, SO.Sat_mono (SO.Sat_bind.mp h) (fun e1 h1 ads1 G1 H1 σ1 R1 s1 => ⟨ads1, G1, e1, R1, Kof.weak s1 h1⟩) (fun _ _ z => z) (fun _ z => z) (fun _ z => z) fun _ _ z => z⟩
theorem tss_one (h1 : PS X st (TSof c r W xs)) : PSs X [st] (TSof c r W xs) := pss_one h1
@[simp] def sBreak : EvS := fun env => .bk env
@[simp] def sCont : EvS := fun env => .ct env
@[simp] def sEx (ea : EvE) : EvS := fun env => (ea env).so fun _ e => .nx e
theorem ts_expr (he : PE X e (TEof c r W ea)) (hs : swapsWith e none pos.line X.env = pure false := by rfl) : PS X (.Expr e pos) (TSof c r W (sEx ea)) := PS.imp (ps_expr he hs) fun D σ H ⟨ads, G, env, R, h⟩ =>
  ⟨ads, G, env, R, Sat_mono (RE.so_Sat.mp h) (fun x e1 h1 ads1 G1 H1 v1 R1 s1 p1 => h1 ads1 G1 H1 σ R1 s1.sub) fun x e z => XC.of z⟩
@[simp] def sRet (pn : List Nat) (ea : EvE) : EvS := fun env => (ea env).so fun x e => match x with
  | .tr t => .rt (.t t) e
  | .sl i => if pn.contains i then .bad else match e[i]? with
    | some (some a) => .rt a e
    | _ => .bad
theorem ts_ret {pn : List Nat} (hp : r.pins.map Prod.fst = pn) (he : PE X e (TEof c r W ea)) : PS X (.Return (some e) pos) (TSof c r W (sRet pn ea)) := PS.imp (ps_ret he) fun D σ H ⟨ads, G, env, R, h⟩ =>
  ⟨ads, G, env, R, Sat_mono (RE.so_Sat.mp h) (fun x e1 h1 ads1 G1 H1 v1 R1 s1 p1 => by
    cases x with
    | tr t => exact h1 ads1 G1 H1 σ v1 R1 s1.sub p1
    | sl i =>
      have h1' : (if pn.contains i then SO.bad else match e1[i]? with
        | some (some a) => .rt a e1
        | _ => .bad).Sat (Kof c r W G D) := h1
      by_cases q : pn.contains i = true
      · rw [if_pos q] at h1'; exact h1'.elim
      · rw [if_neg q] at h1'
        have p2 : σ[i]? = some (some v1) := p1
        have sl := R1.slot i
        rw [p2] at sl
        cases z : e1[i]? with
        | none => rw [z] at h1'; exact h1'.elim
        | some o =>
          rw [z] at h1' sl
          cases o with
          | none => exact h1'.elim
          | some a =>
            refine h1' ads1 G1 H1 σ v1 R1 s1.sub ?_
            cases a with
            | t t => exact sl.2
            | ow o =>
              obtain ⟨p, e0, ow⟩ := sl
              refine ⟨p, ads1 i, e0, ow, fun a ha => ⟨(R1.own i a ha).1, ?_⟩⟩
              rcases (R1.own i a ha).2 with y | y
              · rw [hp] at y
                exact absurd (List.contains_iff_mem.mpr y.1) q
              · exact y) fun x e z => XC.of z⟩
@[simp] def sRetF (ef : EvF) : EvS := fun env => (ef env).so fun o e => .rt (.ow o) e
theorem ts_retF {ef : EvF} (he : PE X e (TFof c r W ef)) : PS X (.Return (some e) pos) (TSof c r W (sRetF ef)) := PS.imp (ps_ret he) fun D σ H ⟨ads, G, env, R, h⟩ =>
  ⟨ads, G, env, R, Sat_mono (RE.so_Sat.mp h) (fun o e1 h1 ads1 G1 H1 p ad R1 s1 ow nw =>
    h1 ads1 G1 H1 σ (.ref p) R1 s1.sub ⟨p, ad, rfl, ow, fun a ha => ⟨(nw a ha).1.1, (nw a ha).1.2.1⟩⟩) fun x e z => XC.of z⟩
@[simp] def sRetN : EvS := fun env => .rt (.t .non) env
@[simp] def sIf (et : EvT) (xs ys : EvS) : EvS := fun env => (et env).so fun b e => if b then xs e else ys e
theorem ts_if {t : Expr} {a b : List Stmt} (ht : PT X t (TTof c r W et)) (ha : PSs X a (TSof c r W xs)) (hb : PSs X b (TSof c r W ys)) : PS X (.If t a b pos) (TSof c r W (sIf et xs ys)) := PS.imp (ps_if ht ha hb) fun D σ H ⟨ads, G, env, R, h⟩ =>
  ⟨ads, G, env, R, Sat_mono (RE.so_Sat.mp h) (fun x e1 h1 ads1 G1 H1 R1 s1 => by
    cases x with
    | true => exact iteT ⟨ads1, G1, e1, R1, Kof.weak s1.sub h1⟩
    | false => exact iteF ⟨ads1, G1, e1, R1, Kof.weak s1.sub h1⟩) fun x e z => XC.of z⟩
end

abbrev Tg := PV → En → Option En
def TGof (c : TC) (r : Ref) (vs : List Nat) (ag : Tg) : TG := fun v σ H Q => ∃ ads G env t env', RS c r ads G H σ env ∧ Rep c G t v ∧ ag t env = some env' ∧ ∀ ads' σ', RS c r ads' G H σ' env' → σ'.length = σ.length → (∀ j, j ∉ vs → σ'[j]? = σ[j]?) → (∀ j, j ∉ vs → ads' j = ads j) → (∀ j, j ∈ vs → ads' j = [] ∨ ads' j = ads j) → Q σ' H
def TGsof (c : TC) (r : Ref) (vs : List Nat) (ag : List PV → En → Option En) : TGs := fun xs σ H Q => ∃ ads G env ts env', RS c r ads G H σ env ∧ RepL c G ts xs ∧ ag ts env = some env' ∧ ∀ ads' σ', RS c r ads' G H σ' env' → σ'.length = σ.length → (∀ j, j ∉ vs → σ'[j]? = σ[j]?) → (∀ j, j ∉ vs → ads' j = ads j) → (∀ j, j ∈ vs → ads' j = [] ∨ ads' j = ads j) → Q σ' H
@[simp] def gNm (i : Nat) : Tg := fun t env => some (env.set i (some (.t t)))
@[simp] def gsNil : List PV → En → Option En := fun ts env => match ts with
  | [] => some env
  | _ => none
@[simp] def gsCons (g : Tg) (gs : List PV → En → Option En) : List PV → En → Option En := fun ts env => match ts with
  | [] => none
  | t :: ts => (g t env).bind (gs ts)
@[simp] def gTp (n : Nat) (gs : List PV → En → Option En) : Tg := fun t env => match t with
  | .tup ts => if ts.length = n then gs ts env else none
  | _ => none
section
variable {X : Cx} {c : TC} {r : Ref} {W : WX} {tg e : Expr} {es : List Expr} {g : Tg} {gs : List PV → En → Option En} {ea : EvE} {pos : Pos} {us ws : List Nat}
theorem PG.imp {t t' : TG} (h : PG X tg t) (i : ∀ v σ H Q, t' v σ H Q → t v σ H Q) : PG X tg t' := ⟨fun pins s σ H v u Q I rv q => h.run pins s σ H v u Q I rv (i v σ H Q q)⟩
theorem PGs.imp {t t' : TGs} (h : PGs X es t) (i : ∀ v σ H Q, t' v σ H Q → t v σ H Q) : PGs X es t' := ⟨fun pins s σ H v u Q I rv q => h.run pins s σ H v u Q I rv (i v σ H Q q)⟩
theorem tg_name {i : Nat} (h : PG X tg (gName i)) (hp : (r.pins.map Prod.fst).contains i = false) : PG X tg (TGof c r [i] (gNm i)) := PG.imp h fun v σ H Q ⟨ads, G, env, t, env', R, rp, e, k⟩ => by
  cases e
  refine k _ _ (R.set rp hp) (by simp) (fun j hj => ?_) (fun j hj => ?_) fun j hj => ?_
  · exact List.getElem?_set_ne fun z => hj (by rw [z]; exact List.mem_singleton.mpr rfl)
  · exact if_neg fun z => hj (by rw [z]; exact List.mem_singleton.mpr rfl)
  · exact .inl (if_pos (List.mem_singleton.mp hj))
theorem tgs_nil : PGs X [] (TGsof c r [] gsNil) := PGs.imp pgs_nil fun vs σ H Q ⟨ads, G, env, ts, env', R, rp, e, k⟩ => by
  cases ts with
  | nil => cases e; cases rp; exact ⟨rfl, k _ _ R rfl (fun _ _ => rfl) (fun _ _ => rfl) fun _ z => nomatch z⟩
  | cons _ _ => cases e
theorem tgs_cons (h1 : PG X e (TGof c r us g)) (h2 : PGs X es (TGsof c r ws gs)) (hs : (assignEach (e :: es) X.env).map (·.2) = assign e X.env :: (assignEach es X.env).map (·.2) := by rfl) : PGs X (e :: es) (TGsof c r (us ++ ws) (gsCons g gs)) :=
  PGs.imp (pgs_cons h1 h2 hs) fun vs σ H Q ⟨ads, G, env, ts, env', R, rp, e, k⟩ => by
    cases ts with
    | nil => cases e
    | cons t ts =>
      obtain ⟨v, rest, rfl, hv, hr⟩ := rp
      simp only [gsCons] at e
      cases q : g t env with
      | none => rw [q] at e; cases e
      | some e1 =>
        rw [q] at e
        refine ⟨v, rest, rfl, ads, G, env, t, e1, R, hv, q, fun ads1 σ1 R1 l1 a1 b1 c1 => ⟨ads1, G, e1, ts, env', R1, hr, e, fun ads2 σ2 R2 l2 a2 b2 c2 => ?_⟩⟩
        refine k ads2 σ2 R2 (l2.trans l1) (fun j hj => ?_) (fun j hj => ?_) fun j hj => ?_
        · rw [List.mem_append] at hj
          rw [a2 j fun z => hj (.inr z), a1 j fun z => hj (.inl z)]
        · rw [List.mem_append] at hj
          rw [b2 j fun z => hj (.inr z), b1 j fun z => hj (.inl z)]
        · have p1 : ads1 j = [] ∨ ads1 j = ads j := by
            by_cases z : j ∈ us
            · exact c1 j z
            · exact .inr (b1 j z)
          have p2 : ads2 j = [] ∨ ads2 j = ads1 j := by
            by_cases z : j ∈ ws
            · exact c2 j z
            · exact .inr (b2 j z)
          rcases p2 with z | z
          · exact .inl z
          · rw [z]; exact p1
theorem tg_tup {k n : Nat} (hK : X.K = c.K) (hc : X.calm = true) (h : PGs X es (TGsof c r ws gs)) (hn : (assignEach es X.env).length = n := by rfl) (hst : (assignEach es X.env).findIdx? (·.1) = none := by rfl) : PG X (.Tuple es k pos) (TGof c r ws (gTp n gs)) :=
  PG.imp (pg_tup hc h hn hst) fun v σ H Q ⟨ads, G, env, t, env', R, rp, e, k⟩ => by
    cases t with
    | tup ts =>
      simp only [gTp] at e
      by_cases l : ts.length = n
      · rw [if_pos l] at e
        simp only [Rep] at rp
        obtain ⟨a, vs, rfl, hs, rr⟩ := rp
        exact ⟨a, vs, rfl, by rw [hK]; exact R.sub.sqT hs, by rw [rr.length, l], ads, G, env, ts, env', R, rr, e, k⟩
      · rw [if_neg l] at e; cases e
    | _ => cases e
@[simp] def sAsg (ea : EvE) (g : Tg) : EvS := fun env => (ea env).so fun x e => match x with
  | .tr t => (match g t e with
    | some e' => .nx e'
    | none => .bad)
  | .sl _ => .bad
theorem asg_imp {D : Ends} {σ : L2.St} {H : Hp} (h : TSof c r W (sAsg ea g) D σ H) : tAsg (TEof c r W ea) (TGof c r us g) D σ H := by
  obtain ⟨ads, G, env, R, h⟩ := h
  refine ⟨ads, G, env, R, Sat_mono (RE.so_Sat.mp h) (fun x e1 h1 ads1 G1 H1 v1 R1 s1 p1 => ?_) fun x e z => XC.of z⟩
  cases x with
  | sl i => exact h1.elim
  | tr t =>
    cases q : g t e1 with
    | none => simp only [q] at h1; exact h1.elim
    | some e2 =>
      simp only [q] at h1
      exact ⟨ads1, G1, e1, t, e2, R1, p1, q, fun ads' σ' R' _ _ _ _ => h1 ads' G1 H1 σ' R' s1.sub⟩
theorem ts_asg (he : PE X e (TEof c r W ea)) (hg : PG X tg (TGof c r us g)) (hs : swapsWithSole [tg] e pos.line X.env = pure false := by rfl) (hw : swappedStores [tg] e X.env = pure none := by rfl)
    (h1 : (assignEach [tg] X.env).map (·.2) = [assign tg X.env] := by rfl) : PS X (.Assign [tg] e pos) (TSof c r W (sAsg ea g)) := PS.imp (ps_asg he hg hs hw h1) fun D σ H h => asg_imp h
@[simp] def sOwn (i : Nat) (ef : EvF) : EvS := fun env => (ef env).so fun o e => if i < e.length then .nx (e.set i (some (.ow o))) else .bad
theorem own_imp {ef : EvF} {i : Nat} (hp : (r.pins.map Prod.fst).contains i = false) {D : Ends} {σ : L2.St} {H : Hp} (h : TSof c r W (sOwn i ef) D σ H) : tAsg (TFof c r W ef) (gName i) D σ H := by
  obtain ⟨ads, G, env, R, h⟩ := h
  refine ⟨ads, G, env, R, Sat_mono (RE.so_Sat.mp h) (fun o e1 h1 ads1 G1 H1 p1 ad R1 s1 ow nw => ?_) fun x e z => XC.of z⟩
  by_cases l : i < e1.length
  · rw [if_pos l] at h1
    exact h1 _ G1 H1 _ (R1.setOwn ow (fun a ha => (nw a ha).1) hp l) s1.sub
  · rw [if_neg l] at h1; exact h1.elim
theorem ts_own {ef : EvF} {i : Nat} {x : Str} {pos' : Pos} (hN : X.N.Nodup) (hi : X.N[i]? = some x) (hx : Loc X.env.scope x) (hp : (r.pins.map Prod.fst).contains i = false) (he : PE X e (TFof c r W ef)) (hs : swapsWith e (some (.Name x pos')) pos.line X.env = pure false := by rfl)
    (hf : X.fn x = true ∨ X.env.scope.names.lookup x = some .local := by first | exact .inl rfl | exact .inr rfl | assumption) : PS X (.Assign [.Name x pos'] e pos) (TSof c r W (sOwn i ef)) :=
  PS.imp (ps_set hN hi hx he hs hf) fun D σ H h => own_imp hp h
theorem ts_set {i : Nat} {x : Str} {pos' : Pos} (hN : X.N.Nodup) (hi : X.N[i]? = some x) (hx : Loc X.env.scope x) (hp : (r.pins.map Prod.fst).contains i = false) (he : PE X e (TEof c r W ea)) (hs : swapsWith e (some (.Name x pos')) pos.line X.env = pure false := by rfl)
    (hf : X.fn x = true ∨ X.env.scope.names.lookup x = some .local := by first | exact .inl rfl | exact .inr rfl | assumption) : PS X (.Assign [.Name x pos'] e pos) (TSof c r W (sAsg ea (gNm i))) :=
  PS.imp (ps_set hN hi hx he hs hf) fun D σ H ⟨ads, G, env, R, h⟩ => by
    refine ⟨ads, G, env, R, Sat_mono (RE.so_Sat.mp h) (fun x e1 h1 ads1 G1 H1 v1 R1 s1 p1 => ?_) fun x e z => XC.of z⟩
    cases x with
    | sl i => exact h1.elim
    | tr t => exact h1 _ G1 H1 _ (R1.set p1 hp) s1.sub
end

def sLoop (et : EvT) (body : EvS) : Nat → EvS
  | 0, _ => .bad
  | n + 1, env => (et env).so fun b e => if b then (match body e with
      | .nx e' => sLoop et body n e'
      | .ct e' => sLoop et body n e'
      | .bk e' => .nx e'
      | o => o) else .nx e
theorem ts_while {X : Cx} {c : TC} {r : Ref} {W : WX} {t : Expr} {et : EvT} {body : List Stmt} {xs : EvS} {pos : Pos} (n : Nat) (hp : PassesOwn (model X.prog X.w) X.A X.env X.xe) (ht : PT X t (TTof c r W et)) (hb : PSs X body (TSof c r W xs)) :
    PS X (.While t body [] pos) (TSof c r W (sLoop et xs n)) := PS.imp (ps_while hp ht hb) fun D σ H ⟨ads, G, env, R, h⟩ => by
  refine ⟨fun m σ' H' => ∃ ads' G' env', RS c r ads' G' H' σ' env' ∧ Sub G G' ∧ (sLoop et xs m env').Sat (Kof c r W G' D), ⟨n, ads, G, env, R, Sub.refl _, h⟩, ?_⟩
  rintro m σ1 H1 ⟨ads1, G1, env1, R1, s1, h1⟩
  cases m with
  | zero => exact h1.elim
  | succ m =>
    refine ⟨ads1, G1, env1, R1, Sat_mono (RE.so_Sat.mp h1) (fun b e2 h2 ads2 G2 H2 R2 s2 => ?_) fun x e z => XC.of z⟩
    cases b with
    | false => exact iteF (h2 ads2 G2 H2 σ1 R2 s2.sub)
    | true =>
      refine iteT ⟨fun σ' H' => ∃ ads' G' env', RS c r ads' G' H' σ' env' ∧ Sub G G' ∧ (sLoop et xs m env').Sat (Kof c r W G' D), fun σ' H' w => ⟨m, Nat.lt_succ_self m, w⟩, ads2, G2, e2, R2, ?_⟩
      have h3 := Kof.weak s2.sub h2
      have h3' : (match xs e2 with
        | .nx e' => sLoop et xs m e'
        | .ct e' => sLoop et xs m e'
        | .bk e' => .nx e'
        | o => o).Sat (Kof c r W G2 D) := h3
      cases q : xs e2 with
      | nx e' => rw [q] at h3'; exact fun ads3 G3 H3 σ3 R3 s3 => ⟨ads3, G3, e', R3, (s1.trans s2.sub).trans s3, Kof.weak s3 h3'⟩
      | ct e' => rw [q] at h3'; exact fun ads3 G3 H3 σ3 R3 s3 => ⟨ads3, G3, e', R3, (s1.trans s2.sub).trans s3, Kof.weak s3 h3'⟩
      | bk e' => rw [q] at h3'; exact fun ads3 G3 H3 σ3 R3 s3 => h3' ads3 G3 H3 σ3 R3 s3
      | rt t e' => rw [q] at h3'; exact h3'
      | exc x e' => rw [q] at h3'; exact h3'
      | bad => rw [q] at h3'; exact h3'.elim
end TreeL
end
section
namespace TreeL
open PySem PySem.Spec PyProof.Rows L2

def alive (x : Vl) (ts : List PV) (env : En) : Bool := match x with
  | .tr _ => true
  | .sl j => match env[j]? with
    | some (some (.ow (.lst xs))) => PV.beqL xs ts
    | _ => false
@[simp] theorem alive_tr (t : PV) (ts : List PV) (env : En) : alive (.tr t) ts env = true := rfl
def ItOk (c : TC) (r : Ref) (G0 : Hp) (x : Vl) (ts : List PV) (J : It) : Prop := ∀ i ads G H σ env, RS c r ads G H σ env → Sub G0 G → alive x ts env = true →
  (∀ t, ts[i]? = some t → J.go i H ∧ ∀ x H', J.yld i H x H' → ∃ G', Step [] H G H' G' ∧ Rep c G' t x) ∧ (ts.length ≤ i → J.stop i H)
structure Wk where
  ts : List PV
  at_ : Vl
abbrev EvI := En → RE Wk
def TIof (c : TC) (r : Ref) (W : WX) (ev : EvI) : TI := fun σ H R => ∃ ads G env, RS c r ads G H σ env ∧
  (ev env).Sat (fun (w : Wk) env' => ∀ ads' G' H' J, RS c r ads' G' H' σ env' → Nxt ads G H ads' G' H' → ItOk c r G' w.at_ w.ts J → R J H') (XC c r W G σ)
theorem itok_list {c : TC} {r : Ref} {K : PySem.W.Frag} {G : Hp} {a : Addr} {x : Vl} {ts : List PV} {vs : List V} (h : G a = some (.lst vs)) (rr : RepL c G ts vs) : ItOk c r G x ts (Itl K a) := fun i ads G' H σ env R s1 _ => by
  have h' : SqL K H a vs := .inl (.inl (R.sub _ _ (s1 _ _ h)))
  refine ⟨fun t ht => ?_, fun hl => ⟨vs, h', by rw [rr.length]; exact hl⟩⟩
  obtain ⟨u, hu, ru⟩ := rr.get ht
  refine ⟨⟨vs, u, h', hu⟩, fun x H' ⟨e, y⟩ => ?_⟩
  subst e
  have z := y vs h'
  rw [hu] at z; cases z
  exact ⟨G', Step.refl R.sub, ru.mono s1⟩
theorem itok_tup {c : TC} {r : Ref} {K : PySem.W.Frag} {G : Hp} {a : Addr} {x : Vl} {ts : List PV} {vs : List V} (h : SqP K G a vs) (rr : RepL c G ts vs) : ItOk c r G x ts (Itt K a) := fun i ads G' H σ env R s1 _ => by
  have h' := R.sub.sqT (s1.sqP h)
  refine ⟨fun t ht => ?_, fun hl => ⟨vs, h', by rw [rr.length]; exact hl⟩⟩
  obtain ⟨u, hu, ru⟩ := rr.get ht
  refine ⟨⟨vs, u, h', hu⟩, fun x H' ⟨e, y⟩ => ?_⟩
  subst e
  have z := y vs h'
  rw [hu] at z; cases z
  exact ⟨G', Step.refl R.sub, ru.mono s1⟩
theorem itok_slot {c : TC} {r : Ref} {K : PySem.W.Frag} {G : Hp} {q : Nat × V × List Addr} {a : Addr} {ts : List PV} (hq : q ∈ r.pins) (ha : q.2.1 = .ref a) : ItOk c r G (.sl q.1) ts (Itl K a) := fun i ads G' H σ env R s1 al => by
  have sl := R.slot q.1
  rw [(R.pin q hq).1] at sl
  simp only [alive] at al
  cases z : env[q.1]? with
  | none => rw [z] at al; cases al
  | some o =>
    rw [z] at al sl
    cases o with
    | none => cases al
    | some a =>
      cases a with
      | t _ => cases al
      | ow o =>
        cases o with
        | lst xs =>
          have e := PV.beqL_eq (show PV.beqL xs ts = true from al)
          subst e
          obtain ⟨p, e1, _, vs, h, rr⟩ := sl
          rw [ha] at e1
          cases e1
          have h' : SqL K H a vs := .inl (.inl h)
          refine ⟨fun t ht => ?_, fun hl => ⟨vs, h', by rw [rr.length]; exact hl⟩⟩
          obtain ⟨u, hu, ru⟩ := rr.get ht
          refine ⟨⟨vs, u, h', hu⟩, fun x H' ⟨e, y⟩ => ?_⟩
          subst e
          have z := y vs h'
          rw [hu] at z; cases z
          exact ⟨G', Step.refl R.sub, ru⟩
        | _ => cases al
theorem itok_range {c : TC} {r : Ref} {G : Hp} {x : Vl} {lo : Int} {n : Nat} : ItOk c r G x ((List.range n).map fun (k : Nat) => PV.int (lo + (k : Int))) (Itr lo n) := fun i ads G' H σ env R s1 _ => by
  refine ⟨fun t ht => ?_, fun hl => ?_⟩
  · rw [List.getElem?_map] at ht
    by_cases lt : i < n
    · rw [List.getElem?_range lt] at ht
      cases ht
      refine ⟨lt, fun x H' ⟨e, y⟩ => ?_⟩
      subst e; subst y
      exact ⟨G', Step.refl R.sub, by simp [Rep]⟩
    · rw [List.getElem?_eq_none (by simpa using lt)] at ht; cases ht
  · have hl' : n ≤ i := by simpa using hl
    exact hl'
section
variable {X : Cx} {c : TC} {r : Ref} {W : WX} {tg e a b : Expr} {ea eb : EvE} {pos p : Pos}
theorem PI.imp {t t' : TI} (h : PI X tg e t) (i : ∀ σ H R, t' σ H R → t σ H R) : PI X tg e t' := ⟨fun pins s σ H R I q => h.run pins s σ H R I (i σ H R q)⟩
theorem PI.or {t t' : TI} (h : PI X tg e t) (h' : PI X tg e t') : PI X tg e (fun σ H R => t σ H R ∨ t' σ H R) := ⟨fun pins s σ H R I q => by
  rcases q with q | q
  · exact h.run pins s σ H R I q
  · exact h'.run pins s σ H R I q⟩
@[simp] def iSeq (pn : List Nat) (ea : EvE) : EvI := fun env => (ea env).bind fun x e => match x with
  | .tr (.lst ts) => .ok ⟨ts, .tr .non⟩ e
  | .tr (.tup ts) => .ok ⟨ts, .tr .non⟩ e
  | .sl j => if pn.contains j then (match e[j]? with
    | some (some (.ow (.lst ts))) => .ok ⟨ts, .sl j⟩ e
    | _ => .bad) else .bad
  | _ => .bad
theorem ti_seq {pn : List Nat} (hp : r.pins.map Prod.fst = pn) (hK : X.K = c.K) (ha : PE X e (TEof c r W ea)) : PI X tg e (TIof c r W (iSeq pn ea)) := PI.imp (PI.or (pi_list ha) (pi_tup ha)) fun σ H R ⟨ads, G, env, R0, h⟩ => by
  have h' := Sat_bind.mp h
  cases q : ea env with
  | bad => rw [q] at h'; exact h'.elim
  | exc x e1 =>
    rw [q] at h'
    exact .inl ⟨ads, G, env, R0, by rw [q]; exact h'⟩
  | ok x e1 =>
    rw [q] at h'
    cases x with
    | sl i =>
      refine .inl ⟨ads, G, env, R0, ?_⟩
      rw [q]
      intro ads1 G1 H1 v1 R1 s1 p1
      have h2 : (if pn.contains i then (match e1[i]? with
        | some (some (.ow (.lst ts))) => RE.ok (Wk.mk ts (.sl i)) e1
        | _ => .bad) else .bad).Sat (fun (w : Wk) env' => ∀ ads' G' H' J, RS c r ads' G' H' σ env' → Nxt ads G H ads' G' H' → ItOk c r G' w.at_ w.ts J → R J H') (XC c r W G σ) := h'
      by_cases m : pn.contains i = true
      · rw [if_pos m] at h2
        have m' := List.contains_iff_mem.mp m
        rw [← hp] at m'
        obtain ⟨pq, hq, rfl⟩ := List.mem_map.mp m'
        have p2 : σ[pq.1]? = some (some v1) := p1
        rw [(R1.pin pq hq).1] at p2
        cases p2
        have sl := R1.slot pq.1
        rw [(R1.pin pq hq).1] at sl
        cases z : e1[pq.1]? with
        | none => rw [z] at h2; exact h2.elim
        | some o =>
          rw [z] at h2 sl
          cases o with
          | none => exact h2.elim
          | some a =>
            cases a with
            | t _ => exact h2.elim
            | ow o =>
              cases o with
              | lst ts =>
                obtain ⟨p, e1, _, vs, hh, rr⟩ := sl
                exact ⟨p, e1, ⟨vs, .inl (.inl hh)⟩, h2 ads1 G1 H1 _ R1 s1 (itok_slot hq e1)⟩
              | _ => exact h2.elim
      · rw [if_neg m] at h2; exact h2.elim
    | tr t =>
      cases t with
      | lst ts =>
        refine .inl ⟨ads, G, env, R0, ?_⟩
        rw [q]
        intro ads1 G1 H1 v1 R1 s1 p1
        simp only [VRep, Rep] at p1
        obtain ⟨a, vs, rfl, hx, rr⟩ := p1
        exact ⟨a, rfl, ⟨vs, .inl (.inl (R1.sub _ _ hx))⟩, h' ads1 G1 H1 _ R1 s1 (itok_list hx rr)⟩
      | tup ts =>
        refine .inr ⟨ads, G, env, R0, ?_⟩
        rw [q]
        intro ads1 G1 H1 v1 R1 s1 p1
        simp only [VRep, Rep] at p1
        obtain ⟨a, vs, rfl, hx, rr⟩ := p1
        exact ⟨a, rfl, ⟨vs, by rw [hK]; exact R1.sub.sqT hx⟩, h' ads1 G1 H1 _ R1 s1 (itok_tup (by rw [hK]; exact hx) rr)⟩
      | _ => exact h'.elim
end

def loopF (g : Tg) (body : EvS) (al : En → Bool) : List PV → EvS
  | [], env => if al env then .nx env else .bad
  | t :: ts, env => if al env then (match g t env with
    | none => .bad
    | some e1 => match body e1 with
      | .nx e2 => loopF g body al ts e2
      | .ct e2 => loopF g body al ts e2
      | .bk e2 => .nx e2
      | o => o) else .bad
def sFor (ev : EvI) (g : Tg) (body : EvS) : EvS := fun env => (ev env).so fun (w : Wk) e => loopF g body (alive w.at_ w.ts) w.ts e
theorem ts_for {X : Cx} {c : TC} {r : Ref} {W : WX} {tg iter : Expr} {body : List Stmt} {ev : EvI} {us : List Nat} {g : Tg} {xs : EvS} {pos : Pos} (hp : PassesOwn (model X.prog X.w) X.A X.env X.xe) (hc : X.calm = true) (hi : PI X tg iter (TIof c r W ev)) (hg : PG X tg (TGof c r us g)) (hb : PSs X body (TSof c r W xs))
    (hs : ∀ x, foldedSetIterable iter X.env x = pure x := by intro _; rfl) : PS X (.For tg iter body [] pos) (TSof c r W (sFor ev g xs)) := PS.imp (ps_for hp hc hi hg hb hs) fun D σ H ⟨ads, G, env, R, h⟩ => by
  refine ⟨ads, G, env, R, Sat_mono (RE.so_Sat.mp h) (fun w e1 h1 ads1 G1 H1 J R1 s1 it => ?_) fun x e z => XC.of z⟩
  obtain ⟨ts, at_⟩ := w
  refine ⟨fun i m σ' H' => m = ts.length - i ∧ ∃ ads' G' env', RS c r ads' G' H' σ' env' ∧ Sub G1 G' ∧ (loopF g xs (alive at_ ts) (ts.drop i) env').Sat (Kof c r W G' D), ⟨_, rfl, ads1, G1, e1, R1, Sub.refl _, Kof.weak s1.sub h1⟩, ?_⟩
  rintro i m σ2 H2 ⟨rfl, ads2, G2, env2, R2, s2, h2⟩
  by_cases al : alive at_ ts env2 = true
  rotate_left
  · cases q : ts.drop i with
    | nil => rw [q, loopF, if_neg al] at h2; exact h2.elim
    | cons t us => rw [q, loopF, if_neg al] at h2; exact h2.elim
  obtain ⟨go, stop⟩ := it i ads2 G2 H2 σ2 env2 R2 s2 al
  cases q : ts[i]? with
  | none =>
    have hl : ts.length ≤ i := List.getElem?_eq_none_iff.mp q
    rw [List.drop_eq_nil_of_le hl, loopF, if_pos al] at h2
    exact .inl ⟨stop hl, h2 ads2 G2 H2 σ2 R2 (Sub.refl _)⟩
  | some t =>
    obtain ⟨g1, g2⟩ := go t q
    have hlt : i < ts.length := (List.getElem?_eq_some_iff.mp q).1
    have hd : ts.drop i = t :: ts.drop (i + 1) := by
      rw [List.drop_eq_getElem_cons hlt, (List.getElem?_eq_some_iff.mp q).2]
    rw [hd, loopF, if_pos al] at h2
    refine .inr ⟨g1, fun σ' H' => ∃ ads' G' env', RS c r ads' G' H' σ' env' ∧ Sub G1 G' ∧ (loopF g xs (alive at_ ts) (ts.drop (i + 1)) env').Sat (Kof c r W G' D), fun σ' H' w => ⟨_, by omega, rfl, w⟩, fun x H' y => ?_⟩
    obtain ⟨G3, st, rx⟩ := g2 x H' y
    have R3 := R2.next st
    cases qg : g t env2 with
    | none => rw [qg] at h2; exact h2.elim
    | some e3 =>
      rw [qg] at h2
      refine ⟨ads2, G3, env2, t, e3, R3, rx, qg, fun ads4 σ4 R4 _ _ _ _ => ⟨ads4, G3, e3, R4, ?_⟩⟩
      have h3 := Kof.weak st.sub h2
      have h3' : (match xs e3 with
        | .nx e2 => loopF g xs (alive at_ ts) (ts.drop (i + 1)) e2
        | .ct e2 => loopF g xs (alive at_ ts) (ts.drop (i + 1)) e2
        | .bk e2 => .nx e2
        | o => o).Sat (Kof c r W G3 D) := h3
      cases qx : xs e3 with
      | nx e' => rw [qx] at h3'; exact fun ads5 G5 H5 σ5 R5 s5 => ⟨ads5, G5, e', R5, (s2.trans st.sub).trans s5, Kof.weak s5 h3'⟩
      | ct e' => rw [qx] at h3'; exact fun ads5 G5 H5 σ5 R5 s5 => ⟨ads5, G5, e', R5, (s2.trans st.sub).trans s5, Kof.weak s5 h3'⟩
      | bk e' => rw [qx] at h3'; exact fun ads5 G5 H5 σ5 R5 s5 => h3' ads5 G5 H5 σ5 R5 s5
      | rt t e' => rw [qx] at h3'; exact h3'
      | exc x e' => rw [qx] at h3'; exact h3'
      | bad => rw [qx] at h3'; exact h3'.elim

@[simp] def wipeE (env : En) : List Nat → En
  | [] => env
  | v :: vs => (wipeE env vs).set v none
@[simp] def unW (e0 env : En) : List Nat → En
  | [] => env
  | v :: vs => (unW e0 env vs).set v (e0[v]?.join)
@[simp] def noOwn (env : En) (vs : List Nat) : Bool := vs.all fun j => match env[j]? with
  | some (some (.ow _)) => false
  | _ => true
theorem wipeE_length (env : En) : ∀ vs, (wipeE env vs).length = env.length
  | [] => rfl
  | v :: vs => by unfold wipeE; rw [List.length_set, wipeE_length env vs]
theorem unW_length (e0 env : En) : ∀ vs, (unW e0 env vs).length = env.length
  | [] => rfl
  | v :: vs => by unfold unW; rw [List.length_set, unW_length e0 env vs]
theorem unW_out {e0 env : En} {j : Nat} : ∀ {vs : List Nat}, j ∉ vs → (unW e0 env vs)[j]? = env[j]?
  | [], _ => rfl
  | v :: vs, h => by
    unfold unW
    rw [List.getElem?_set_ne fun e => h (by rw [e]; exact List.mem_cons_self)]
    exact unW_out fun m => h (List.mem_cons_of_mem _ m)
theorem unW_in {e0 env : En} {j : Nat} (hl : env.length = e0.length) : ∀ {vs : List Nat}, j ∈ vs → (unW e0 env vs)[j]?.join = e0[j]?.join
  | v :: vs, h => by
    unfold unW
    by_cases e : v = j
    · subst e
      by_cases lt : v < (unW e0 env vs).length
      · rw [join_set_self lt]
      · rw [set_out lt, List.getElem?_eq_none (Nat.le_of_not_lt lt)]
        rw [unW_length, hl] at lt
        rw [List.getElem?_eq_none (Nat.le_of_not_lt lt)]
    · rw [join_set_ne e]
      rcases List.mem_cons.mp h with z | z
      · exact absurd z.symm e
      · exact unW_in hl z
theorem wipe_same {σ σ2 : L2.St} {vs : List Nat} (h : ∀ j, j ∉ vs → σ2[j]? = (wipe σ vs)[j]?) (hl : σ2.length = σ.length) : wipe σ2 vs = wipe σ vs := by
  have none_in : ∀ (τ : L2.St) (us : List Nat) (j : Nat), j ∈ us → j < τ.length → (wipe τ us)[j]? = some none := by
    intro τ us
    induction us with
    | nil => intro j hj _; cases hj
    | cons v us ih =>
      intro j hj lt
      unfold wipe
      by_cases e : v = j
      · subst e
        rw [List.getElem?_set_self (by rw [wipe_length]; exact lt)]
      · rw [List.getElem?_set_ne e]
        rcases List.mem_cons.mp hj with z | z
        · exact absurd z.symm e
        · exact ih j z lt
  apply List.ext_getElem?
  intro j
  by_cases m : j ∈ vs
  · by_cases lt : j < σ.length
    · rw [none_in σ2 vs j m (by rw [hl]; exact lt), none_in σ vs j m lt]
    · rw [List.getElem?_eq_none (by rw [wipe_length, hl]; omega), List.getElem?_eq_none (by rw [wipe_length]; omega)]
  · rw [wipe_out m, h j m]
section
variable {c : TC} {r : Ref} {ads ads1 : Nat → List Addr} {G H G1 H1 : Hp} {σ : L2.St} {env env1 : En} {vs : List Nat}
def cutA (ads : Nat → List Addr) (vs : List Nat) : Nat → List Addr := fun j => if j ∈ vs then [] else ads j
theorem RS.wipes (R : RS c r ads G H σ env) (hp : ∀ j ∈ vs, (r.pins.map Prod.fst).contains j = false) : RS c r (cutA ads vs) G H (L2.wipe σ vs) (wipeE env vs) := by
  induction vs with
  | nil =>
    have e : cutA ads [] = ads := by funext j; simp [cutA]
    rw [e]; exact R
  | cons v vs ih =>
    have R' := (ih fun j hj => hp j (List.mem_cons_of_mem _ hj)).wipe (hp v List.mem_cons_self)
    have e : (fun j => if j = v then [] else cutA ads vs j) = cutA ads (v :: vs) := by
      funext j
      unfold cutA
      by_cases q : j = v
      · subst q; simp
      · by_cases m : j ∈ vs <;> simp [q, m]
    rw [e] at R'
    exact R'
theorem RS.back (R0 : RS c r ads G H σ env) (no : noOwn env vs = true) (R : RS c r ads1 G1 H1 (L2.wipe σ vs) env1) (s : Nxt ads G H ads1 G1 H1) (hp : ∀ j ∈ vs, (r.pins.map Prod.fst).contains j = false) :
    RS c r (cutA ads1 vs) G1 H1 σ (unW env env1 vs) where
  step := R.step
  len := by rw [unW_length, R.len, wipe_length]
  slot := fun j => by
    have hl : env1.length = env.length := by rw [R.len, wipe_length, R0.len]
    unfold cutA
    by_cases m : j ∈ vs
    · rw [if_pos m, unW_in hl m]
      have s0 := R0.slot j
      have n := List.all_eq_true.mp no j m
      cases q : env[j]? with
      | none => rfl
      | some o =>
        rw [q] at s0 n
        cases o with
        | none => rfl
        | some a =>
          cases a with
          | ow o => cases n
          | t t =>
            cases z : σ[j]?.join with
            | none => rw [z] at s0; exact (show False from s0).elim
            | some v =>
              rw [z] at s0
              exact ⟨rfl, s0.2.mono s.sub⟩
    · rw [if_neg m, unW_out m]
      have s1 := R.slot j
      rw [wipe_out m] at s1
      exact s1
  own := fun j a ha => by
    unfold cutA at ha
    by_cases m : j ∈ vs
    · rw [if_pos m] at ha; cases ha
    · rw [if_neg m] at ha; exact R.own j a ha
  disj := fun j k a ha hb => by
    unfold cutA at ha hb
    by_cases m : j ∈ vs
    · rw [if_pos m] at ha; cases ha
    · by_cases m' : k ∈ vs
      · rw [if_pos m'] at hb; cases hb
      · rw [if_neg m] at ha; rw [if_neg m'] at hb; exact R.disj j k a ha hb
  pin := fun q hq => by
    have nv : q.1 ∉ vs := fun m => by
      have z := hp _ m
      rw [List.contains_iff_mem.mpr (List.mem_map_of_mem hq)] at z; cases z
    have p := R.pin q hq
    rw [wipe_out nv] at p
    unfold cutA
    rw [if_neg nv]
    exact p
end
def compL (g : Tg) (et : EvT) (ea : EvE) (vs : List Nat) (al : En → Bool) : List PV → List PV → En → RE (List PV)
  | [], acc, env => if al env then .ok acc env else .bad
  | t :: ts, acc, env => if al env then (match g t env with
    | none => .bad
    | some e1 => match et e1 with
      | .ok b e2 => if b then (match ea e2 with
          | .ok (.tr x) e3 => if acc.length < LIM then compL g et ea vs al ts (acc ++ [x]) (wipeE e3 vs) else .bad
          | _ => .bad) else compL g et ea vs al ts acc (wipeE e2 vs)
      | _ => .bad) else .bad
@[simp] def fComp (ev : EvI) (g : Tg) (et : EvT) (ea : EvE) (vs : List Nat) : EvF := fun env => (ev env).bind fun (w : Wk) e0 =>
  if noOwn e0 vs then (match compL g et ea vs (alive w.at_ w.ts) w.ts [] (wipeE e0 vs) with
    | .ok acc e1 => .ok (.lst acc) (unW e0 e1 vs)
    | _ => .bad) else .bad
@[simp] def tYesT : EvT := fun env => .ok true env
abbrev W0 : WX := fun _ _ _ _ => False
section
variable {X : Cx} {c : TC} {r : Ref} {W : WX}
theorem PTs.imp {ifs : List Expr} {t t' : TT} (h : PTs X ifs t) (i : ∀ σ H Q, t' σ H Q → t σ H Q) : PTs X ifs t' := ⟨fun pins s σ H Q I q => h.run pins s σ H Q I (i σ H Q q)⟩
theorem tts_nil : PTs X [] (TTof c r W tYesT) := PTs.imp pts_nil fun σ H Q ⟨ads, G, env, R, h⟩ => h ads G H R (Nxt.refl _ _ _)
theorem tts_one {a : Expr} {et : EvT} (h : PT X a (TTof c r W et)) : PTs X [a] (TTof c r W et) := pts_one h
theorem RS.scratch {ads : Nat → List Addr} {G H : Hp} {σ : L2.St} {env : En} (R : RS c r ads G H σ env) {D : Addr} {ho ho' : HO} (n : New r ads G D) (hD : H D = some ho) : RS c r ads G (upd H D ho') σ env where
  step := R.step.trans (Step.write R.sub n.1 hD) fun x hx => by
    rw [List.mem_singleton.mp hx]
    exact .inr n.2.1
  len := R.len
  slot := fun j => (R.slot j).stay (Sub.refl _) fun b hb u e => by
    have ne : b ≠ D := fun q => n.2.2 j (by rw [← q]; exact hb)
    rw [upd_ne ne]; exact e
  own := R.own
  disj := R.disj
  pin := R.pin
structure Hx (D : Addr) (ads : Nat → List Addr) (G H : Hp) (ads1 : Nat → List Addr) (G1 H1 : Hp) : Prop where
  sub : Sub G G1
  hold : ∀ a o, a ≠ D → H a = some o → (∀ j, a ∉ ads j) → H1 a = some o ∧ (∀ j, a ∉ ads1 j) ∧ (¬ IsKey o → G a = none → G1 a = none)
  there : ∀ a, a ≠ D → H1 a = none → H a = none
theorem Hx.step {D : Addr} {ads ads1 ads2 : Nat → List Addr} {G H G1 H1 G2 H2 : Hp} (a : Hx D ads G H ads1 G1 H1) (b : Nxt ads1 G1 H1 ads2 G2 H2) : Hx D ads G H ads2 G2 H2 :=
  ⟨a.sub.trans b.sub, fun x o n e m => let z := a.hold x o n e m; let y := b.hold x o z.1 z.2.1; ⟨y.1, y.2.1, fun k q => y.2.2 k (z.2.2 k q)⟩, fun x n e => a.there x n (b.there x e)⟩
theorem Hx.put {D : Addr} {ads ads1 : Nat → List Addr} {G H G1 H1 : Hp} {ho : HO} (a : Hx D ads G H ads1 G1 H1) : Hx D ads G H ads1 G1 (upd H1 D ho) :=
  ⟨a.sub, fun x o n e m => by rw [upd_ne n]; exact a.hold x o n e m, fun x n e => by rw [upd_ne n] at e; exact a.there x n e⟩
theorem Hx.less {D : Addr} {ads ads1 ads2 : Nat → List Addr} {G H G1 H1 : Hp} (s : Hx D ads G H ads2 G1 H1) (h : ∀ j a, a ∈ ads1 j → a ∈ ads2 j) : Hx D ads G H ads1 G1 H1 :=
  ⟨s.sub, fun a o n e m => let z := s.hold a o n e m; ⟨z.1, fun j q => z.2.1 j (h j a q), z.2.2⟩, s.there⟩
theorem Hx.nxt {D : Addr} {ads ads1 : Nat → List Addr} {G H G1 H1 : Hp} (s : Hx D ads G H ads1 G1 H1) (hD : H D = none) : Nxt ads G H ads1 G1 H1 :=
  ⟨s.sub, fun a o e n => s.hold a o (fun z => by rw [z, hD] at e; cases e) e n, fun a e => by
    by_cases z : a = D
    · rw [z]; exact hD
    · exact s.there a z e⟩
theorem cutA_sub {ads : Nat → List Addr} {vs : List Nat} : ∀ j a, a ∈ cutA ads vs j → a ∈ ads j := fun j a m => by
  unfold cutA at m
  by_cases q : j ∈ vs
  · rw [if_pos q] at m; cases m
  · rw [if_neg q] at m; exact m
def compEnd (e0 : En) (vs : List Nat) (x : RE (List PV)) : RE OS := match x with
  | .ok acc e1 => .ok (.lst acc) (unW e0 e1 vs)
  | _ => .bad
theorem lc_imp {ev : EvI} {us vs : List Nat} {g : Tg} {et : EvT} {ea : EvE} (hp : ∀ j ∈ vs, (r.pins.map Prod.fst).contains j = false) (hu : ∀ j ∈ us, j ∈ vs) {σ : L2.St} {H : Hp} {Q : VK} (h : TFof c r W (fComp ev g et ea vs) σ H Q) :
    tLc (TIof c r W ev) (TGof c r us g) (TTof c r W0 et) (TEof c r W0 ea) vs σ H Q := by
  obtain ⟨ads, G, env, R, h⟩ := h
  refine ⟨ads, G, env, R, Sat_mono (Sat_bind.mp h) (fun w e0 h1 ads1 G1 H1 J R1 s1 it D hD => ?_) fun _ _ z => z⟩
  obtain ⟨ts, at_⟩ := w
  by_cases no : noOwn e0 vs = true
  rotate_left
  · rw [if_neg no] at h1; exact h1.elim
  rw [if_pos no] at h1
  have h1 : (compEnd e0 vs (compL g et ea vs (alive at_ ts) ts [] (wipeE e0 vs))).Sat _ _ := h1
  have Ri := (R1.lay (ho := .lst []) hD).wipes hp
  have nw := New.of R1 hD
  have hx0 : Hx D ads1 G1 H1 (cutA ads1 vs) G1 (upd H1 D (.lst [])) :=
    (Hx.put ⟨Sub.refl _, fun a o n e m => ⟨e, m, fun _ => id⟩, fun a n e => e⟩).less cutA_sub
  refine ⟨fun i m H' => m = ts.length - i ∧ ∃ ads' G' env' acc va, RS c r ads' G' H' (wipe σ vs) env' ∧ Hx D ads1 G1 H1 ads' G' H' ∧ H' D = some (.lst va) ∧ RepL c G' acc va ∧ New r ads' G' D ∧
    (compEnd e0 vs (compL g et ea vs (alive at_ ts) (ts.drop i) acc env')).Sat (fun o env' => ∀ ads' G' H' p ad, RS c r ads' G' H' σ env' → Nxt ads G H ads' G' H' → OwRep c G' H' p ad o → (∀ a ∈ ad, New r ads' G' a ∧ H a = none) → Q (.ref p) H') (XC c r W G σ),
    ⟨_, rfl, cutA ads1 vs, G1, _, [], [], Ri, hx0, upd_same, RepL.nil, ⟨nw.1, nw.2.1, fun j m => nw.2.2 j (cutA_sub j D m)⟩, h1⟩, ?_⟩
  rintro i m H2 ⟨rfl, ads2, G2, env2, acc, va, R2, s2, hDa, ra, nw2, h2⟩
  by_cases al : alive at_ ts env2 = true
  rotate_left
  · cases q : ts.drop i with
    | nil => rw [q, compL, if_neg al] at h2; exact h2.elim
    | cons t us => rw [q, compL, if_neg al] at h2; exact h2.elim
  obtain ⟨go, stop⟩ := it i ads2 G2 H2 _ env2 R2 s2.sub al
  cases q : ts[i]? with
  | none =>
    have hl : ts.length ≤ i := List.getElem?_eq_none_iff.mp q
    rw [List.drop_eq_nil_of_le hl, compL, if_pos al] at h2
    have sB := s2.nxt hD
    have RB := R1.back no R2 sB hp
    exact .inl ⟨stop hl, h2 (cutA ads2 vs) G2 H2 D [D] RB (s1.trans (sB.less cutA_sub)) ⟨rfl, va, hDa, ra⟩ fun a ha => by rw [List.mem_singleton.mp ha]; exact ⟨⟨nw2.1, nw2.2.1, fun j m => nw2.2.2 j (cutA_sub j D m)⟩, s1.there D hD⟩⟩
  | some t =>
    obtain ⟨g1, g2⟩ := go t q
    have hlt : i < ts.length := (List.getElem?_eq_some_iff.mp q).1
    have hd : ts.drop i = t :: ts.drop (i + 1) := by
      rw [List.drop_eq_getElem_cons hlt, (List.getElem?_eq_some_iff.mp q).2]
    rw [hd, compL, if_pos al] at h2
    refine .inr ⟨g1, fun H' => ∃ ads' G' env' acc va, RS c r ads' G' H' (wipe σ vs) env' ∧ Hx D ads1 G1 H1 ads' G' H' ∧ H' D = some (.lst va) ∧ RepL c G' acc va ∧ New r ads' G' D ∧
      (compEnd e0 vs (compL g et ea vs (alive at_ ts) (ts.drop (i + 1)) acc env')).Sat (fun o env' => ∀ ads' G' H' p ad, RS c r ads' G' H' σ env' → Nxt ads G H ads' G' H' → OwRep c G' H' p ad o → (∀ a ∈ ad, New r ads' G' a ∧ H a = none) → Q (.ref p) H') (XC c r W G σ), fun H' w => ⟨_, by omega, rfl, w⟩, fun x H' y => ?_⟩
    obtain ⟨G3, st, rx⟩ := g2 x H' y
    have R3 := R2.next st
    have x3 := s2.step (Nxt.of (ads := ads2) st)
    have dD := (Nxt.of (ads := ads2) st).hold D _ hDa nw2.2.2
    have nw3 : New r ads2 G3 D := ⟨dD.2.2 nk_lst nw2.1, nw2.2.1, dD.2.1⟩
    cases qg : g t env2 with
    | none => rw [qg] at h2; exact h2.elim
    | some e3 =>
      rw [qg] at h2
      refine ⟨ads2, G3, env2, t, e3, R3, rx, qg, fun ads4 σ4 R4 l4 a4 b4 c4 => ?_⟩
      have sub4 : ∀ j a, a ∈ ads4 j → a ∈ ads2 j := fun j a m => by
        by_cases z : j ∈ us
        · rcases c4 j z with w | w
          · rw [w] at m; cases m
          · rw [w] at m; exact m
        · rw [b4 j z] at m; exact m
      have hw : wipe σ4 vs = wipe σ vs := wipe_same (fun j hj => a4 j fun z => hj (hu j z)) (by rw [l4, wipe_length])
      refine ⟨hw, ads4, G3, e3, R4, ?_⟩
      have x4 := x3.less sub4
      have nw4 : New r ads4 G3 D := ⟨nw3.1, nw3.2.1, fun j m => nw3.2.2 j (sub4 j D m)⟩
      simp only at h2
      cases qt : et e3 with
      | bad => rw [qt] at h2; exact h2.elim
      | exc x e => rw [qt] at h2; exact h2.elim
      | ok b e4 =>
        rw [qt] at h2
        simp only at h2
        intro ads5 G5 H5 R5 s5
        have x5 := x4.step s5
        have d5 := s5.hold D _ dD.1 nw4.2.2
        have nw5 : New r ads5 G5 D := ⟨d5.2.2 nk_lst nw4.1, nw4.2.1, d5.2.1⟩
        have ra5 := ra.mono (st.sub.trans s5.sub)
        cases b with
        | false =>
          refine iteF ⟨cutA ads5 vs, G5, _, acc, va, ?_, x5.less cutA_sub, d5.1, ra5, ⟨nw5.1, nw5.2.1, fun j m => nw5.2.2 j (cutA_sub j D m)⟩, h2⟩
          have R6 := R5.wipes hp
          rw [hw] at R6
          exact R6
        | true =>
          refine iteT ⟨ads5, G5, e4, R5, ?_⟩
          simp only [if_true] at h2
          cases qe : ea e4 with
          | bad => rw [qe] at h2; exact h2.elim
          | exc x e => rw [qe] at h2; exact h2.elim
          | ok x e5 =>
            rw [qe] at h2
            cases x with
            | sl j => exact h2.elim
            | tr tx =>
              simp only at h2
              by_cases hl : acc.length < LIM
              rotate_left
              · rw [if_neg hl] at h2; exact h2.elim
              rw [if_pos hl] at h2
              intro ads6 G6 H6 v6 R6 s6 p6
              have x6 := x5.step s6
              have d6 := s6.hold D _ d5.1 nw5.2.2
              have nw6 : New r ads6 G6 D := ⟨d6.2.2 nk_lst nw5.1, nw5.2.1, d6.2.1⟩
              have ra6 := ra5.mono s6.sub
              refine ⟨va, d6.1, by rw [ra.length]; exact Nat.lt_of_lt_of_le hl (lim_line (Nat.le_refl _)), cutA ads6 vs, G6, _, acc ++ [tx], va ++ [v6], ?_, x6.put.less cutA_sub, upd_same, ra6.append (RepL.one p6), ⟨nw6.1, nw6.2.1, fun j m => nw6.2.2 j (cutA_sub j D m)⟩, h2⟩
              have R7 := (R6.scratch (ho' := .lst (va ++ [v6])) nw6 d6.1).wipes hp
              rw [hw] at R7
              exact R7
end
end TreeL
end
section
namespace TreeL
open PySem PySem.Spec PyProof.Rows L2

inductive FR where
  | ret (a : Arg) (as : List Arg) | exc (x : EX) (as : List Arg) | bad
abbrev FSem := List Arg → FR
def ARep (c : TC) (G H : Hp) : List (List Addr) → List Arg → List V → Prop
  | [], [], [] => True
  | ad :: adl, a :: as, v :: vs => SlotRep c G H ad (some a) (some v) ∧ ARep c G H adl as vs
  | _, _, _ => False
def Apart (adl : List (List Addr)) : Prop := ∀ i j a, a ∈ adl.getD i [] → a ∈ adl.getD j [] → i = j
def FEnd (c : TC) (H G : Hp) (adl : List (List Addr)) (vs : List V) (Q : VK) (E : XK) : FR → Prop
  | .ret t as => ∀ H' G' v, Step adl.flatten H G H' G' → RetRep c H G' H' t v → ARep c G' H' adl as vs → Q v H'
  | .exc x as => ∀ H' G' cls d, Step adl.flatten H G H' G' → RepX c G' x cls d H' → ARep c G' H' adl as vs → E cls d H'
  | .bad => False
def spF (c : TC) (n : Nat) (F : FSem) : Sp := fun vs H Q E => vs.length = n ∧ ∃ G args adl, Sub G H ∧ ARep c G H adl args vs ∧ Apart adl ∧ (∀ a ∈ adl.flatten, G a = none) ∧ FEnd c H G adl vs Q E (F args)
theorem spF_len {c : TC} {n : Nat} {F : FSem} : ∀ vs H Q E, spF c n F vs H Q E → vs.length = n := fun _ _ _ _ h => h.1

theorem ARep.lens {c : TC} {G H : Hp} : ∀ {adl : List (List Addr)} {as : List Arg} {vs : List V}, ARep c G H adl as vs → adl.length = as.length ∧ vs.length = as.length
  | [], [], [], _ => ⟨rfl, rfl⟩
  | _ :: _, _ :: _, _ :: _, ⟨_, h⟩ => by simp [(ARep.lens h).1, (ARep.lens h).2]
  | [], [], _ :: _, h => h.elim
  | [], _ :: _, _, h => by cases ‹List V› <;> exact h.elim
  | _ :: _, [], _, h => by cases ‹List V› <;> exact h.elim
  | _ :: _, _ :: _, [], h => h.elim
theorem ARep.at {c : TC} {G H : Hp} : ∀ {adl : List (List Addr)} {as : List Arg} {vs : List V} (i : Nat), ARep c G H adl as vs → SlotRep c G H (adl.getD i []) as[i]? vs[i]?
  | [], [], [], i, _ => by simp [SlotRep]
  | _ :: _, _ :: _, _ :: _, 0, ⟨h, _⟩ => by simpa using h
  | _ :: _, _ :: _, _ :: _, i + 1, ⟨_, h⟩ => by simpa using ARep.at i h
  | [], [], _ :: _, _, h => h.elim
  | [], _ :: _, _, _, h => by cases ‹List V› <;> exact h.elim
  | _ :: _, [], _, _, h => by cases ‹List V› <;> exact h.elim
  | _ :: _, _ :: _, [], _, h => h.elim
theorem ARep.of {c : TC} {G H : Hp} : ∀ {adl : List (List Addr)} {as : List Arg} {vs : List V}, adl.length = as.length → vs.length = as.length → (∀ i, i < as.length → SlotRep c G H (adl.getD i []) as[i]? vs[i]?) → ARep c G H adl as vs
  | [], [], [], _, _, _ => trivial
  | _ :: _, _ :: _, _ :: _, h1, h2, h => ⟨by simpa using h 0 (by simp), ARep.of (by simpa using h1) (by simpa using h2) fun i hi => by simpa using h (i + 1) (by simpa using hi)⟩
  | [], [], _ :: _, _, h, _ => by simp at h
  | [], _ :: _, _, h, _, _ => by simp at h
  | _ :: _, [], _, h, _, _ => by simp at h
  | _ :: _, _ :: _, [], _, h, _ => by simp at h
theorem ARep.append {c : TC} {G H : Hp} : ∀ {adl adl' : List (List Addr)} {as as' : List Arg} {vs vs' : List V}, ARep c G H adl as vs → ARep c G H adl' as' vs' → ARep c G H (adl ++ adl') (as ++ as') (vs ++ vs')
  | [], _, [], _, [], _, _, h => h
  | _ :: _, _, _ :: _, _, _ :: _, _, ⟨a, h⟩, h' => ⟨a, ARep.append h h'⟩
  | [], _, [], _, _ :: _, _, h, _ => h.elim
  | [], _, _ :: _, _, _, _, h, _ => by cases ‹List V› <;> exact h.elim
  | _ :: _, _, [], _, _, _, h, _ => by cases ‹List V› <;> exact h.elim
  | _ :: _, _, _ :: _, _, [], _, h, _ => h.elim

structure RoomG (k : Nat) (A : Around) : Prop where
  rm : Room k A
  gd : A.guards = some []
theorem RoomG.mono {j k : Nat} {A : Around} (r : RoomG k A) (h : j ≤ k) : RoomG j A := ⟨r.rm.mono h, r.gd⟩
theorem RoomG.deeper {k : Nat} {A : Around} (r : RoomG (k + 1) A) (env : Env) : RoomG k (A.deeper env) := ⟨r.rm.deeper env, r.gd⟩
theorem RoomG.in1 {k : Nat} {A : Around} (r : RoomG (k + 1) A) : RoomG k A.in1 := ⟨r.rm.in1, r.gd⟩
theorem RoomG.make {k : Nat} {A : Around} (r : RoomG (k + 1) A) (C : Addr) (us : List Value) (kw : List (Str × Value)) : RoomG k (A.under (.builtin "type.__call__" ⟨.ref C :: us, kw⟩)) := ⟨r.rm.make C us kw, by
  have e : (Code.builtin "type.__call__" ⟨.ref C :: us, kw⟩).guards = [] := by
    unfold Code.guards
    rw [if_neg (by simp [Code.isGuard, guardIds])]
  show pushGuards (Code.builtin "type.__call__" ⟨.ref C :: us, kw⟩).guards A.guards = some []
  rw [e]
  exact r.gd⟩
structure FnG (P : Program) (w : World) (K : PySem.W.Frag) (mg : Str → Option Value) (base : Heap) (k : Nat) (f : Addr) (fd : FuncData) (ps : List Str) (sp : Sp) : Prop where
  len : ∀ vs H Q E, sp vs H Q E → vs.length = ps.length
  run : ∀ (A : Around) (l : List Env) (st : Shared) (H : Hp) (ar : Args) (us : List Value) (vs : List V) (Q : VK) (E : XK), RoomG k A → Env0 P w K mg base A l st H → BindsTo st fd ar (ps.zip us) → Vals vs us → sp vs H Q E →
    codeAny (model P w) A (.call (.ref f) ar) (CR (L2.CX P w) l P w H st Q E) st
theorem FnG.mono {P : Program} {w : World} {K : PySem.W.Frag} {mg : Str → Option Value} {base : Heap} {j k : Nat} {f : Addr} {fd : FuncData} {ps : List Str} {sp : Sp} (F : FnG P w K mg base j f fd ps sp) (h : j ≤ k) : FnG P w K mg base k f fd ps sp := ⟨F.len, fun A l st H ar us vs Q E hr => F.run A l st H ar us vs Q E (hr.mono h)⟩
theorem fnG_of {P : Program} {w : World} {K : PySem.W.Frag} {mg : Str → Option Value} {base : Heap} {x qual : Str} {params : Arguments} {body : List Stmt} {scope : Scope} {dvs : List V} {kws : List (Str × V)} {f : Addr} {fd : FuncData} {N ps : List Str} {k : Nat} {sp : Sp} (F : FunD K x qual params body scope dvs kws f fd) (S : FnScope N ps scope)
    (len : ∀ vs H Q E, sp vs H Q E → vs.length = ps.length)
    (hbody : ∀ (cdv : Value) (A : Around) (l : List Env) (st : Shared) (H : Hp) (vs : List V) (Q : VK) (E : XK), RoomG k (A.deeper (envOfC qual scope st.heap.objs.size f cdv)) → sp vs H Q E →
      ∃ t, PSs (cxOf (L2.CX P w) P w K mg base N qual scope f cdv A l st H E) body t ∧ t { nx := fun _ H' => Q .non H', rt := Q } (L2.start N vs) H) : FnG P w K mg base (k + 1) f fd ps sp := by
  obtain ⟨oc, od, dV, kV, doc, pm, an, cdv, ct, osl, rfl, lk, hcd, _, _⟩ := F.ex
  refine ⟨len, fun A l st H ar us vs Q E hr e0 hb rv hsp => ?_⟩
  have kin : K.In st.heap := e0.mod.kin.keeps fun b o e => (e0.bs b o e).1
  have nol : st.heap.NoLimit := e0.mod.nolimit.keeps fun b o e => (e0.bs b o e).1
  have kinds : ∀ y ∈ ps.zip us, scope.names.lookup y.1 = some .local ∨ (scope.names.lookup y.1 = some .cell ∧ ((cellsFrom (st.heap.objs.size + 1) scope.names []).lookup y.1).isSome = true) := fun ⟨n, v⟩ hy => by
    rcases S.par n (List.of_mem_zip hy).1 with q | q
    · exact .inl q
    · exact .inr ⟨q, PySem.W.cellsFrom_some _ _ _ (.inl q)⟩
  refine codeAny_call_function hr.rm.depth (kin _ _ lk) rfl S.co S.gen rfl (PySem.W.codeRec_of kin hcd) (hb _ _ _ _ ?_)
  refine wpAny_newFunctionEnv_cells S.kind kinds fun env he s1 xc => ?_
  subst he
  refine ⟨nol.keeps xc.toInCall.keep, codeAny_func ?_⟩
  obtain ⟨t, ht, hq⟩ := hbody cdv A l st H vs Q E (hr.deeper _) hsp
  have J : Inv (cxOf (L2.CX P w) P w K mg base N qual scope f cdv A l st H E) [] (L2.start N vs) H s1 := inv_start S hr.rm.hd e0 (len _ _ _ _ hsp) rv xc
  refine wpAny_mono (ht.run [] s1 (L2.start N vs) H _ J hq) (fun fl s' hs => ?_) fun e s' hs => hs
  match fl, hs with
  | .ret u, ⟨v, σ', H', J', rv', q⟩ => exact ⟨v, H', J'.os, J'.bare, J'.base, J'.hok, rv', q⟩
  | .next, ⟨σ', H', J', q⟩ => exact ⟨.non, H', J'.os, J'.bare, J'.base, J'.hok, rfl, q⟩
  | .brk, ⟨_, _, _, q⟩ => exact q.elim
  | .cont, ⟨_, _, _, q⟩ => exact q.elim
theorem runG {X : Cx} {k : Nat} {f : Addr} {fd : FuncData} {ps : List Str} {A' : Around} {sp : Sp} {E : XK} {dw : List Value} {dvs : List V} (hF : FnG X.prog X.w X.K X.mg X.base k f fd ps sp) (hb : Binds X.K fd ps dw) (hd : Vals dvs dw) (hr : RoomG k A') (hfr : A'.frames = some X.stack) {pins : List (Addr × Obj)} {st : Shared} {σ : L2.St} {H : Hp} {us : List Value} {vs : List V} {Q : VK}
    (hx : PassesAt (L2.CX X.prog X.w) X σ E) (I : Inv X pins σ H st) (rv : Vals vs us) (h : sp (vs ++ dvs) H Q E) : wpAny (model X.prog X.w) A' (call (.ref f) us) (EP X pins σ Q) X.xe st := by
  have e := I.env0
  have e0 : Env0 X.prog X.w X.K X.mg X.base A' X.stack st H := ⟨hfr, e.mod, e.bs, e.bsz, e.funs, e.frf, e.hok, e.bare⟩
  have rv2 : Vals (vs ++ dvs) (us ++ dw) := rv.append hd
  have hl : (us ++ dw).length = ps.length := by rw [← rv2.length]; exact hF.len _ _ _ _ h
  refine wpAny_call (codeAny_mono (hF.run A' X.stack st H ⟨us, []⟩ _ _ Q E hr e0 (hb st us I.kIn hl) rv2 h) fun z s' hq => ?_)
  match z, hq with
  | .error e, hq => exact hx pins H st e s' I hq
  | .ok (.ret u), hq => exact I.after hq
  | .ok .next, hq => exact hq.elim
  | .ok .brk, hq => exact hq.elim
  | .ok .cont, hq => exact hq.elim

@[simp] def upA : Arg → Option Arg → Arg
  | .ow _, some (.ow o) => .ow o
  | a, _ => a
@[simp] def upArgs : List Arg → En → List Arg
  | [], _ => []
  | a :: as, [] => a :: as
  | a :: as, e :: es => upA a e :: upArgs as es
theorem upArgs_length : ∀ (as : List Arg) (e : En), (upArgs as e).length = as.length
  | [], _ => rfl
  | _ :: _, [] => rfl
  | _ :: as, _ :: es => by simp [upArgs, upArgs_length as es]
theorem upArgs_at : ∀ (as : List Arg) (e : En) (i : Nat) (a : Arg), as[i]? = some a → (upArgs as e)[i]? = some (upA a (e[i]?.join))
  | _ :: _, [], i, a, h => by
    rw [upArgs, h]
    cases a <;> simp [upA]
  | _ :: _, _ :: _, 0, a, h => by
    simp at h
    subst h
    simp [upArgs]
  | _ :: as, _ :: es, i + 1, a, h => by simpa [upArgs] using upArgs_at as es i a (by simpa using h)
@[simp] def okArgs (pn : List Nat) : Nat → List Arg → Bool
  | _, [] => true
  | i, .t _ :: as => okArgs pn (i + 1) as
  | i, .ow _ :: as => pn.contains i && okArgs pn (i + 1) as
theorem okArgs_at {pn : List Nat} : ∀ {as : List Arg} {i j : Nat} {o : OS}, okArgs pn i as = true → as[j]? = some (.ow o) → pn.contains (i + j) = true
  | .t _ :: as, i, 0, o, h, e => by simp at e
  | .ow _ :: as, i, 0, o, h, e => by
    simp only [okArgs, Bool.and_eq_true] at h
    exact h.1
  | .t _ :: as, i, j + 1, o, h, e => by
    have z := okArgs_at (as := as) (i := i + 1) (j := j) h (by simpa using e)
    have q : i + 1 + j = i + (j + 1) := by omega
    rw [← q]; exact z
  | .ow _ :: as, i, j + 1, o, h, e => by
    simp only [okArgs, Bool.and_eq_true] at h
    have z := okArgs_at (as := as) (i := i + 1) (j := j) h.2 (by simpa using e)
    have q : i + 1 + j = i + (j + 1) := by omega
    rw [← q]; exact z
  | [], _, _, _, _, e => by simp at e
@[simp] def env0 (n : Nat) (args : List Arg) : En := args.map some ++ List.replicate (n - args.length) none
def fDef (n : Nat) (pn : List Nat) (body : EvS) : FSem := fun args => if okArgs pn 0 args then (match body (env0 n args) with
  | .nx e => .ret (.t .non) (upArgs args e)
  | .rt a e => .ret a (upArgs args e)
  | .exc x e => .exc x (upArgs args e)
  | _ => .bad) else .bad
def refOf (H G : Hp) (pn : List Nat) (adl : List (List Addr)) (vs : List V) : Ref := ⟨H, G, adl.flatten, pn.map fun i => (i, vs.getD i .non, adl.getD i [])⟩
theorem refOf_pins {H G : Hp} {pn : List Nat} {adl : List (List Addr)} {vs : List V} : (refOf H G pn adl vs).pins.map Prod.fst = pn := by
  show (pn.map fun i => (i, vs.getD i .non, adl.getD i [])).map Prod.fst = pn
  rw [List.map_map]
  exact List.map_id' _
theorem starts_at {N : List Str} {vs : List V} {i : Nat} : (L2.start N vs)[i]?.join = vs[i]? := by
  unfold L2.start
  by_cases h : i < vs.length
  · rw [List.getElem?_append_left (by simpa using h), List.getElem?_map]
    cases vs[i]? <;> rfl
  · rw [List.getElem?_append_right (by simpa using Nat.le_of_not_lt h), List.getElem?_replicate, List.getElem?_eq_none (Nat.le_of_not_lt h)]
    split <;> rfl
theorem env0_at {n : Nat} {args : List Arg} {i : Nat} : (env0 n args)[i]?.join = args[i]? := by
  unfold env0
  by_cases h : i < args.length
  · rw [List.getElem?_append_left (by simpa using h), List.getElem?_map]
    cases args[i]? <;> rfl
  · rw [List.getElem?_append_right (by simpa using Nat.le_of_not_lt h), List.getElem?_replicate, List.getElem?_eq_none (Nat.le_of_not_lt h)]
    split <;> rfl
section
variable {c : TC} {G H : Hp} {N : List Str} {pn : List Nat} {adl : List (List Addr)} {args : List Arg} {vs : List V}
theorem mem_flatten_getD {a : Addr} {i : Nat} (h : a ∈ adl.getD i []) : a ∈ adl.flatten := by
  rw [List.getD_eq_getElem?_getD] at h
  cases q : adl[i]? with
  | none => rw [q] at h; cases h
  | some l =>
    rw [q] at h
    exact List.mem_flatten.mpr ⟨l, List.mem_of_getElem? q, h⟩
theorem RS.begin (s : Sub G H) (ar : ARep c G H adl args vs) (ap : Apart adl) (gn : ∀ a ∈ adl.flatten, G a = none) (ok : okArgs pn 0 args = true) (hl : vs.length ≤ N.length) (hpn : ∀ i ∈ pn, i < vs.length) :
    RS c (refOf H G pn adl vs) (fun i => adl.getD i []) G H (L2.start N vs) (env0 N.length args) where
  step := Step.refl s
  len := by
    unfold env0 L2.start
    have := ar.lens
    simp only [List.length_append, List.length_map, List.length_replicate]
    omega
  slot := fun i => by rw [starts_at, env0_at]; exact ar.at i
  own := fun i a ha => by
    have m := mem_flatten_getD ha
    refine ⟨gn a m, .inl ⟨?_, m⟩⟩
    rw [refOf_pins]
    have z := ar.at i
    cases q : args[i]? with
    | none => rw [q] at z; rw [z] at ha; cases ha
    | some x =>
      rw [q] at z
      cases x with
      | t t =>
        cases w : vs[i]? with
        | none => rw [w] at z; exact (show False from z).elim
        | some v => rw [w] at z; rw [z.1] at ha; cases ha
      | ow o =>
        have y := okArgs_at ok q
        rw [Nat.zero_add] at y
        exact List.contains_iff_mem.mp y
  disj := fun i j a h1 h2 => ap i j a h1 h2
  pin := fun q hq => by
    obtain ⟨i, hi, rfl⟩ := List.mem_map.mp hq
    refine ⟨?_, rfl⟩
    have lt := hpn i hi
    unfold L2.start
    rw [List.getElem?_append_left (by simpa using lt), List.getElem?_map, List.getElem?_eq_getElem lt]
    simp [List.getD_eq_getElem?_getD, List.getElem?_eq_getElem lt]
theorem RS.ended {H' G' : Hp} {ads' : Nat → List Addr} {σ' : L2.St} {env' : En} (ar : ARep c G H adl args vs) (ok : okArgs pn 0 args = true) (R : RS c (refOf H G pn adl vs) ads' G' H' σ' env') : ARep c G' H' adl (upArgs args env') vs := by
  have l := ar.lens
  refine ARep.of (by rw [upArgs_length]; exact l.1) (by rw [upArgs_length]; exact l.2) fun i hi => ?_
  rw [upArgs_length] at hi
  have z := ar.at i
  have hx : args[i]? = some args[i] := List.getElem?_eq_getElem hi
  rw [upArgs_at args env' i _ hx]
  rw [hx] at z
  have hv : vs[i]? = some (vs[i]'(by omega)) := List.getElem?_eq_getElem (by omega)
  rw [hv] at z ⊢
  cases q : args[i] with
  | t t =>
    rw [q] at z
    have e : upA (.t t) (env'[i]?.join) = .t t := by simp [upA]
    rw [e]
    exact ⟨z.1, z.2.mono R.step.sub⟩
  | ow o =>
    rw [q] at z hx
    obtain ⟨p, e0, ow⟩ := z
    have y := okArgs_at ok hx
    rw [Nat.zero_add] at y
    have pin := R.pin (i, vs.getD i .non, adl.getD i []) (List.mem_map.mpr ⟨i, List.contains_iff_mem.mp y, rfl⟩)
    have pin1 : σ'[i]? = some (some (vs.getD i .non)) := pin.1
    have pin2 : ads' i = adl.getD i [] := pin.2
    have ev : vs.getD i .non = vs[i]'(by omega) := by rw [List.getD_eq_getElem?_getD, hv]; rfl
    have sl := R.slot i
    rw [pin1, pin2, ev] at sl
    have pm : ∃ p, p ∈ adl.getD i [] := by
      cases o with
      | lst _ => rw [ow.1]; exact ⟨_, List.mem_cons_self⟩
      | dct _ _ => rw [ow.1]; exact ⟨_, List.mem_cons_self⟩
      | ins _ _ => rw [ow.1]; exact ⟨_, List.mem_cons_self⟩
      | boxD _ _ => obtain ⟨q, e, _⟩ := ow; rw [e]; exact ⟨_, List.mem_cons_self⟩
      | boxL _ _ => obtain ⟨q, e, _⟩ := ow; rw [e]; exact ⟨_, List.mem_cons_self⟩
      | lof _ _ => obtain ⟨q, _, _, e, _⟩ := ow; rw [e]; exact ⟨_, List.mem_cons_self⟩
      | pr _ _ => obtain ⟨_, _, _, _, e, _⟩ := ow; rw [e]; exact ⟨_, List.mem_cons_self⟩
      | dol _ => obtain ⟨_, _, e, _⟩ := ow; rw [e]; exact ⟨_, List.mem_cons_self⟩
      | scrT _ => rw [ow.1]; exact ⟨_, List.mem_cons_self⟩
      | boxF _ _ => obtain ⟨a, q, e, _⟩ := ow; rw [e]; exact ⟨_, List.mem_cons_self⟩
    obtain ⟨p, pm⟩ := pm
    cases w : env'[i]?.join with
    | none => rw [w] at sl; rw [show adl.getD i [] = [] from sl] at pm; cases pm
    | some a =>
      rw [w] at sl
      cases a with
      | t t => rw [show adl.getD i [] = [] from sl.1] at pm; cases pm
      | ow o' => exact sl
end
section
variable {P : Program} {w : World} {K : PySem.W.Frag} {mg : Str → Option Value} {base : Heap} {x qual : Str} {params : Arguments} {body : List Stmt} {scope : Scope} {dvs : List V} {kws : List (Str × V)} {f : Addr} {fd : FuncData}
structure DefCx (P : Program) (w : World) (K : PySem.W.Frag) (mg : Str → Option Value) (base : Heap) (N : List Str) (scope : Scope) (k : Nat) (pn : List Nat) (X : Cx) (r : Ref) (W : WX) : Prop where
  prog : X.prog = P
  w : X.w = w
  K : X.K = K
  mg : X.mg = mg
  base : X.base = base
  N : X.N = N
  sc : X.env.scope = scope
  calm : X.calm = true
  fn : X.fn = fun _ => true
  room : RoomG k X.A
  takes : Takes X W
  owns : PassesOwn (model X.prog X.w) X.A X.env X.xe
  pins : r.pins.map Prod.fst = pn
theorem fn_tree {c : TC} {N ps : List Str} {k : Nat} {pn : List Nat} {xs : EvS} (F : FunD K x qual params body scope dvs kws f fd) (S : FnScope N ps scope) (hpn : ∀ i ∈ pn, i < ps.length)
    (hbody : ∀ (cdv : Value) (A : Around) (outer : List Env) (s : Shared) (H : Hp) (E : XK) (r : Ref), let X := cxOf (L2.CX P w) P w K mg base N qual scope f cdv A outer s H E; RoomG k X.A → r.pins.map Prod.fst = pn → Takes X (fun cls d _ H' => E cls d H') → PassesOwn (model X.prog X.w) X.A X.env X.xe →
      PSs X body (TSof c r (fun cls d _ H' => E cls d H') xs)) : FnG P w K mg base (k + 1) f fd ps (spF c ps.length (fDef N.length pn xs)) := by
  refine fnG_of F S spF_len fun cdv A outer s H vs Q E hr ⟨hl, G, args, adl, sb, ar, ap, gn, he⟩ => ?_
  have tk : Takes (cxOf (L2.CX P w) P w K mg base N qual scope f cdv A outer s H E) (fun cls d _ H' => E cls d H') := takes_of rfl rfl rfl rfl
  have po : PassesOwn (model P w) (cxOf (L2.CX P w) P w K mg base N qual scope f cdv A outer s H E).A (cxOf (L2.CX P w) P w K mg base N qual scope f cdv A outer s H E).env (cxOf (L2.CX P w) P w K mg base N qual scope f cdv A outer s H E).xe := passes_of rfl
  refine ⟨_, hbody cdv A outer s H E (refOf H G pn adl vs) hr refOf_pins tk po, ?_⟩
  have hpl : ps.length ≤ N.length := by have := congrArg List.length S.pre; rw [List.length_take] at this; omega
  unfold fDef at he
  by_cases ok : okArgs pn 0 args = true
  rotate_left
  · rw [if_neg ok] at he; exact he.elim
  rw [if_pos ok] at he
  refine ⟨_, G, _, RS.begin sb ar ap gn ok (by omega) (by rw [hl]; exact hpn), ?_⟩
  cases q : xs (env0 N.length args) with
  | nx e =>
    rw [q] at he
    exact fun ads' G' H' σ' R s' => he H' G' .non R.step (by simp [RetRep, Rep]) (RS.ended ar ok R)
  | rt a e =>
    rw [q] at he
    exact fun ads' G' H' σ' v R s' rr => he H' G' v R.step rr (RS.ended ar ok R)
  | exc x e =>
    rw [q] at he
    exact fun ads' G' H' σ' cls d R s' rx => he H' G' cls d R.step rx (RS.ended ar ok R)
  | bk e => rw [q] at he; exact he.elim
  | ct e => rw [q] at he; exact he.elim
  | bad => rw [q] at he; exact he.elim
end

@[simp] def argOf (env : En) : Vl → Option Arg
  | .tr t => some (.t t)
  | .sl i => env[i]?.join
@[simp] def argsOf (env : En) : List Vl → Option (List Arg)
  | [] => some []
  | x :: xs => match argOf env x, argsOf env xs with
    | some a, some as => some (a :: as)
    | _, _ => none
@[simp] def slotsOf : List Vl → List Nat
  | [] => []
  | .tr _ :: xs => slotsOf xs
  | .sl i :: xs => i :: slotsOf xs
@[simp] def noTwice : List Nat → Bool
  | [] => true
  | i :: l => !l.contains i && noTwice l
@[simp] def putArgs : List Vl → List Arg → En → En
  | x :: xs, a :: as, env => match x, a with
    | .sl i, .ow o => (putArgs xs as env).set i (some (.ow o))
    | _, _ => putArgs xs as env
  | _, _, env => env
def adOf (ads : Nat → List Addr) : Vl → List Addr
  | .tr _ => []
  | .sl i => ads i
theorem putArgs_length : ∀ (xs : List Vl) (as : List Arg) (env : En), (putArgs xs as env).length = env.length
  | [], _, _ => rfl
  | _ :: _, [], _ => rfl
  | .tr _ :: xs, _ :: as, env => putArgs_length xs as env
  | .sl i :: xs, .t _ :: as, env => putArgs_length xs as env
  | .sl i :: xs, .ow o :: as, env => by
    show ((putArgs xs as env).set i (some (.ow o))).length = _
    rw [List.length_set, putArgs_length xs as env]
section
variable {c : TC} {r : Ref} {ads : Nat → List Addr} {G H G1 H1 : Hp} {σ : L2.St} {env : En} {xs : List Vl} {vs : List V} {args as : List Arg}
theorem RS.arep (R : RS c r ads G H σ env) : ∀ {xs : List Vl} {vs : List V} {args : List Arg}, VReps c σ G xs vs → argsOf env xs = some args → ARep c G H (xs.map (adOf ads)) args vs
  | [], _, _, h, e => by cases h; cases e; trivial
  | x :: xs, _, args, ⟨v, u, e1, h, t⟩, e => by
    subst e1
    simp only [argsOf] at e
    cases q : argOf env x with
    | none => rw [q] at e; cases e
    | some a =>
      rw [q] at e
      cases q2 : argsOf env xs with
      | none => rw [q2] at e; cases e
      | some as =>
        rw [q2] at e
        cases e
        refine ⟨?_, RS.arep R t q2⟩
        cases x with
        | tr t => cases q; exact ⟨rfl, h⟩
        | sl i =>
          have z := R.slot i
          rw [show σ[i]? = some (some v) from h, show env[i]?.join = some a from q] at z
          exact z
theorem RS.apart (R : RS c r ads G H σ env) : ∀ {xs : List Vl}, noTwice (slotsOf xs) = true → Apart (xs.map (adOf ads)) ∧ (∀ i a, a ∈ (xs.map (adOf ads)).getD i [] → ∃ j, j ∈ slotsOf xs ∧ a ∈ ads j)
  | [], _ => ⟨fun i j a h => by simp at h, fun i a h => by simp at h⟩
  | .tr t :: xs, h => by
    obtain ⟨h1, h2⟩ := RS.apart R (xs := xs) h
    refine ⟨fun i j a ha hb => ?_, fun i a ha => ?_⟩
    · cases i with
      | zero => simp [adOf] at ha
      | succ i =>
        cases j with
        | zero => simp [adOf] at hb
        | succ j => rw [h1 i j a (by simpa using ha) (by simpa using hb)]
    · cases i with
      | zero => simp [adOf] at ha
      | succ i => exact h2 i a (by simpa using ha)
  | .sl k :: xs, h => by
    simp only [slotsOf, noTwice, Bool.and_eq_true, Bool.not_eq_true'] at h
    obtain ⟨h1, h2⟩ := RS.apart R (xs := xs) h.2
    have no : ∀ j a, a ∈ (xs.map (adOf ads)).getD j [] → a ∉ ads k := fun j a ha hb => by
      obtain ⟨m, m1, m2⟩ := h2 j a ha
      have e := R.disj m k a m2 hb
      subst e
      rw [List.contains_iff_mem.mpr m1] at h
      cases h.1
    refine ⟨fun i j a ha hb => ?_, fun i a ha => ?_⟩
    · cases i with
      | zero =>
        cases j with
        | zero => rfl
        | succ j => exact absurd (by simpa [adOf] using ha) (no j a (by simpa using hb))
      | succ i =>
        cases j with
        | zero => exact absurd (by simpa [adOf] using hb) (no i a (by simpa using ha))
        | succ j => rw [h1 i j a (by simpa using ha) (by simpa using hb)]
    · cases i with
      | zero => exact ⟨k, List.mem_cons_self, by simpa [adOf] using ha⟩
      | succ i =>
        obtain ⟨m, m1, m2⟩ := h2 i a (by simpa using ha)
        exact ⟨m, List.mem_cons_of_mem _ m1, m2⟩
theorem mem_adOf {a : Addr} (h : a ∈ (xs.map (adOf ads)).flatten) : ∃ i, Vl.sl i ∈ xs ∧ a ∈ ads i := by
  obtain ⟨l, h1, h2⟩ := List.mem_flatten.mp h
  obtain ⟨x, h3, rfl⟩ := List.mem_map.mp h1
  cases x with
  | tr _ => cases h2
  | sl i => exact ⟨i, h3, h2⟩
theorem put_slot (hl : env.length = σ.length) : ∀ {xs : List Vl} {as : List Arg} {vs : List V}, VReps c σ G xs vs → ARep c G1 H1 (xs.map (adOf ads)) as vs → ∀ j,
    ((putArgs xs as env)[j]? = env[j]? ∧ (Vl.sl j ∈ xs → ads j = [])) ∨ SlotRep c G1 H1 (ads j) ((putArgs xs as env)[j]?.join) (σ[j]?.join)
  | [], as, vs, _, _, j => by cases as <;> exact .inl ⟨rfl, fun h => nomatch h⟩
  | x :: xs, [], _, ⟨_, _, e, _⟩, h, j => by subst e; exact h.elim
  | .tr t :: xs, a :: as, _, ⟨v, u, e, h, ht⟩, ha, j => by
    subst e
    rcases put_slot hl ht ha.2 j with ⟨z1, z2⟩ | z
    · refine .inl ⟨z1, fun m => ?_⟩
      rcases List.mem_cons.mp m with y | y
      · cases y
      · exact z2 y
    · exact .inr z
  | .sl i :: xs, .t t :: as, _, ⟨v, u, e, h, ht⟩, ha, j => by
    subst e
    rcases put_slot hl ht ha.2 j with ⟨z1, z2⟩ | z
    · refine .inl ⟨z1, fun m => ?_⟩
      rcases List.mem_cons.mp m with y | y
      · cases y
        exact ha.1.1
      · exact z2 y
    · exact .inr z
  | .sl i :: xs, .ow o :: as, _, ⟨v, u, e, h, ht⟩, ha, j => by
    subst e
    have hs : σ[i]? = some (some v) := h
    have lt : i < (putArgs xs as env).length := by
      rw [putArgs_length, hl]
      exact (List.getElem?_eq_some_iff.mp hs).1
    show (((putArgs xs as env).set i (some (.ow o)))[j]? = env[j]? ∧ _) ∨ SlotRep c G1 H1 (ads j) (((putArgs xs as env).set i (some (.ow o)))[j]?.join) (σ[j]?.join)
    by_cases q : i = j
    · subst q
      refine .inr ?_
      rw [join_set_self lt, hs]
      exact ha.1
    · rw [join_set_ne q, List.getElem?_set_ne q]
      rcases put_slot hl ht ha.2 j with ⟨z1, z2⟩ | z
      · refine .inl ⟨z1, fun m => ?_⟩
        rcases List.mem_cons.mp m with y | y
        · cases y; exact absurd rfl q
        · exact z2 y
      · exact .inr z
theorem RS.call {B : List Addr} (R : RS c r ads G H σ env) (pv : VReps c σ G xs vs) (st : Step B H G H1 G1) (hB : ∀ a ∈ B, (∃ i, Vl.sl i ∈ xs ∧ a ∈ ads i) ∨ H a = none) (ar : ARep c G1 H1 (xs.map (adOf ads)) as vs) :
    RS c r ads G1 H1 σ (putArgs xs as env) where
  step := R.step.trans st fun a ha => by
    rcases hB a ha with ⟨i, _, z⟩ | z
    · rcases (R.own i a z).2 with y | y
      · exact .inl y.2
      · exact .inr y
    · exact .inr (R.step.there a z)
  len := by rw [putArgs_length]; exact R.len
  slot := fun j => by
    rcases put_slot R.len pv ar j with ⟨z1, z2⟩ | z
    · rw [z1]
      refine (R.slot j).stay st.sub fun a ha u e => st.keep a u (fun hb => ?_) e
      rcases hB a hb with ⟨i, m, y⟩ | y
      · have e' := R.disj i j a y ha
        subst e'
        rw [z2 m] at ha; cases ha
      · rw [y] at e; cases e
    · exact z
  own := fun i a h => by
    refine ⟨?_, (R.own i a h).2⟩
    cases e : G1 a with
    | none => rfl
    | some u =>
      rcases st.new a u e with z | z | z
      · rw [(R.own i a h).1] at z; cases z
      · obtain ⟨u', e'⟩ := R.ownSome h
        rw [z] at e'; cases e'
      · refine absurd z (SlotRep.nk (c := c) (G := G1) (H := H1) (ad := ads i) (s := (putArgs xs as env)[i]?.join) (v := σ[i]?.join) ?_ a h u (st.sub1 _ _ e))
        rcases put_slot R.len pv ar i with ⟨z1, z2⟩ | z
        · rw [z1]
          refine (R.slot i).stay st.sub fun a ha u e => st.keep a u (fun hb => ?_) e
          rcases hB a hb with ⟨k, m, y⟩ | y
          · have e' := R.disj k i a y ha
            subst e'
            rw [z2 m] at ha; cases ha
          · rw [y] at e; cases e
        · exact z
  disj := R.disj
  pin := R.pin
theorem RS.callNxt {B : List Addr} (R : RS c r ads G H σ env) (st : Step B H G H1 G1) (hB : ∀ a ∈ B, (∃ i, Vl.sl i ∈ xs ∧ a ∈ ads i) ∨ H a = none) : Nxt ads G H ads G1 H1 where
  sub := st.sub
  hold := fun a o e n => by
    have kp : H1 a = some o := st.keep a o (fun hb => ?_) e
    refine ⟨kp, n, fun k q => ?_⟩
    rotate_left
    · rcases hB a hb with ⟨i, _, y⟩ | y
      · exact n i y
      · rw [y] at e; cases e
    · cases z : G1 a with
      | none => rfl
      | some u =>
        rcases st.new a u z with y | y | y
        · rw [q] at y; cases y
        · rw [e] at y; cases y
        · rw [st.sub1 _ _ z] at kp; cases kp; exact absurd y k
  there := st.there
theorem ARep.trs {G H : Hp} : ∀ {ts : List PV} {vs : List V}, RepL c G ts vs → ARep c G H (ts.map fun _ => []) (ts.map Arg.t) vs
  | [], _, h => by cases h; trivial
  | _ :: _, _, ⟨v, r, e, h, t⟩ => by subst e; exact ⟨⟨rfl, h⟩, ARep.trs t⟩
theorem ARep.cutF {G H : Hp} : ∀ {adl adl' : List (List Addr)} {as : List Arg} {vs vs' : List V}, adl.length = vs.length → ARep c G H (adl ++ adl') as (vs ++ vs') → ARep c G H adl (as.take vs.length) vs
  | [], _, _, [], _, _, _ => by simp; trivial
  | _ :: adl, _, [], _ :: vs, _, _, h => h.elim
  | _ :: adl, _, _ :: as, _ :: vs, _, l, h => ⟨h.1, ARep.cutF (by simpa using l) h.2⟩
  | [], _, _, _ :: _, _, l, _ => by simp at l
  | _ :: _, _, _, [], _, l, _ => by simp at l
theorem flatten_nils {α β : Type} : ∀ (ts : List α), (ts.map fun _ => ([] : List β)).flatten = []
  | [] => rfl
  | _ :: ts => by simpa using flatten_nils ts
theorem apart_nils {adl : List (List Addr)} {α : Type} {ts : List α} (h : Apart adl) : Apart (adl ++ ts.map fun _ => []) := by
  have e : ∀ i, (adl ++ ts.map fun _ => ([] : List Addr)).getD i [] = adl.getD i [] := fun i => by
    rw [List.getD_eq_getElem?_getD, List.getD_eq_getElem?_getD]
    by_cases lt : i < adl.length
    · rw [List.getElem?_append_left lt]
    · rw [List.getElem?_append_right (Nat.le_of_not_lt lt), List.getElem?_eq_none (Nat.le_of_not_lt lt), List.getElem?_map]
      cases ts[i - adl.length]? <;> rfl
  intro i j a h1 h2
  rw [e] at h1 h2
  exact h i j a h1 h2
end

@[simp] def okCall (n : Nat) (ds : List PV) (xs : List Vl) : Bool := noTwice (slotsOf xs) && xs.length + ds.length == n
@[simp] def rCall (n : Nat) (F : FSem) (ds : List PV) (el : EvA) : EvR := fun env => (el env).bind fun xs e => if okCall n ds xs then (match argsOf e xs with
  | none => .bad
  | some args => match F (args ++ ds.map Arg.t) with
    | .ret a as => .ok a (putArgs xs (as.take xs.length) e)
    | .exc x as => .exc x (putArgs xs (as.take xs.length) e)
    | .bad => .bad) else .bad
def rMake (k : Nat) (n : Nat) (F : FSem) (ds : List PV) (el : EvA) : EvR := fun env => (el env).bind fun xs e => if okCall n ds (.tr .non :: xs) then (match argsOf e xs with
  | none => .bad
  | some args => match F (.ow (.ins k []) :: (args ++ ds.map Arg.t)) with
    | .ret (.t .non) (.ow o :: as) => RE.ok (Arg.ow o) (putArgs xs (as.take xs.length) e)
    | .exc x (_ :: as) => .exc x (putArgs xs (as.take xs.length) e)
    | _ => .bad) else .bad
section
variable {X : Cx} {c : TC} {r : Ref} {W : WX} {F : FSem} {el : EvA} {n : Nat} {ds : List PV} {dvs : List V}
theorem VReps.length {σ : L2.St} {G : Hp} : ∀ {xs : List Vl} {vs : List V}, VReps c σ G xs vs → vs.length = xs.length
  | [], _, h => by cases h; rfl
  | _ :: _, _, ⟨v, u, e, _, t⟩ => by subst e; simp [VReps.length t]
theorem call_core {ads0 ads : Nat → List Addr} {G0 H0 G H : Hp} {σ : L2.St} {env : En} {xs : List Vl} {vs : List V} {Q : VK} (R : RS c r ads G H σ env) (s0 : Nxt ads0 G0 H0 ads G H) (pv : VReps c σ G xs vs) (hd : ∀ G, RepL c G ds dvs)
    (h : (if okCall n ds xs then (match argsOf env xs with
      | none => RE.bad
      | some args => match F (args ++ ds.map Arg.t) with
        | .ret a as => .ok a (putArgs xs (as.take xs.length) env)
        | .exc x as => .exc x (putArgs xs (as.take xs.length) env)
        | .bad => .bad) else .bad).Sat (fun o env' => ∀ ads' G' H' v, RS c r ads' G' H' σ env' → Nxt ads0 G0 H0 ads' G' H' → ResNew c r ads' G' H0 H' o v → Q v H') (XC c r W G0 σ)) :
    spF c n F (vs ++ dvs) H Q (WE W σ) := by
  have ld := (hd G).length
  have lx := pv.length
  by_cases nt : okCall n ds xs = true
  rotate_left
  · rw [if_neg nt] at h; exact h.elim
  rw [if_pos nt] at h
  simp only [okCall, Bool.and_eq_true, beq_iff_eq] at nt
  refine ⟨by rw [List.length_append, ld, lx]; exact nt.2, ?_⟩
  cases qa : argsOf env xs with
  | none => rw [qa] at h; exact h.elim
  | some args =>
    rw [qa] at h
    have ar := R.arep pv qa
    have ap := R.apart nt.1
    have hB : ∀ a ∈ (xs.map (adOf ads) ++ ds.map fun _ => []).flatten, (∃ i, Vl.sl i ∈ xs ∧ a ∈ ads i) ∨ H a = none := fun a ha => by
      rw [List.flatten_append, flatten_nils, List.append_nil] at ha
      exact .inl (mem_adOf ha)
    refine ⟨G, args ++ ds.map Arg.t, xs.map (adOf ads) ++ ds.map fun _ => [], R.sub, ar.append (ARep.trs (hd G)), apart_nils ap.1, fun a ha => ?_, ?_⟩
    · rcases hB a ha with ⟨i, _, z⟩ | z
      · exact (R.own i a z).1
      · cases e : G a with
        | none => rfl
        | some u => rw [R.sub _ _ e] at z; cases z
    · cases qf : F (args ++ ds.map Arg.t) with
      | bad => simp only [qf] at h; exact h.elim
      | ret a as =>
        simp only [qf] at h
        intro H' G' v st rr ar'
        have ar2 := ARep.cutF (by simp [lx]) ar'
        rw [lx] at ar2
        have R' := R.call pv st hB ar2
        refine h ads G' H' v R' (s0.trans (R.callNxt st hB)) ?_
        cases a with
        | t t => exact rr
        | ow o =>
          obtain ⟨p, ad, e, ow, fr⟩ := rr
          refine ⟨p, ad, e, ow, fun b hb => ?_⟩
          have z := fr b hb
          refine ⟨⟨z.1, R.step.there b z.2, fun j hj => ?_⟩, s0.there b z.2⟩
          obtain ⟨u, e⟩ := R.ownSome hj
          rw [z.2] at e; cases e
      | exc x as =>
        simp only [qf] at h
        intro H' G' cls d st rx ar'
        have ar2 := ARep.cutF (by simp [lx]) ar'
        rw [lx] at ar2
        exact h ads G' H' cls d (R.call pv st hB ar2) (s0.sub.trans st.sub) rx
theorem call_imp (hd : ∀ G, RepL c G ds dvs) {σ : L2.St} {H : Hp} {Q : VK} (h : TRof c r W (rCall n F ds el) σ H Q) : tCallSD (spF c n F) dvs (WE W) (TAof c r W el) σ H Q := by
  obtain ⟨ads, G, env, R, h⟩ := h
  exact ⟨ads, G, env, R, Sat_mono (Sat_bind.mp h) (fun xs e1 h1 ads1 G1 H1 vs R1 s1 p1 => call_core R1 s1 p1 hd h1) fun _ _ z => z⟩
def tMakeS (C : Addr) (sp : Sp) (dvs : List V) (E : L2.St → XK) (t : TA) : TE := fun σ H Q => t σ H fun vs H1 => ∀ x dx, H1 x = none → H1 dx = none → dx ≠ x →
  sp (.ref x :: (vs ++ dvs)) (upd (upd H1 dx (.own x)) x (.ins C dx [])) (fun v H2 => v = .non ∧ Q (.ref x) H2) (E σ)
theorem apart_new {adl : List (List Addr)} {x : Addr} (h : Apart adl) (n : ∀ a ∈ adl.flatten, a ≠ x) : Apart ([x] :: adl) := by
  have no : ∀ j a, a ∈ adl.getD j [] → a ∉ [x] := fun j a h1 h2 => n a (mem_flatten_getD h1) (List.mem_singleton.mp h2)
  intro i j a ha hb
  cases i with
  | zero =>
    cases j with
    | zero => rfl
    | succ j => exact absurd (by simpa using ha) (no j a (by simpa using hb))
  | succ i =>
    cases j with
    | zero => exact absurd (by simpa using hb) (no i a (by simpa using ha))
    | succ j => rw [h i j a (by simpa using ha) (by simpa using hb)]
theorem make_core {k : Nat} {ads0 ads : Nat → List Addr} {G0 H0 G H : Hp} {σ : L2.St} {env : En} {xs : List Vl} {vs : List V} {Q : VK} (R : RS c r ads G H σ env) (s0 : Nxt ads0 G0 H0 ads G H) (pv : VReps c σ G xs vs) (hd : ∀ G, RepL c G ds dvs)
    (h : (if okCall n ds (.tr .non :: xs) then (match argsOf env xs with
      | none => RE.bad
      | some args => match F (Arg.ow (.ins k []) :: (args ++ ds.map Arg.t)) with
        | .ret (.t .non) (.ow o :: as) => RE.ok (Arg.ow o) (putArgs xs (as.take xs.length) env)
        | .exc x (_ :: as) => .exc x (putArgs xs (as.take xs.length) env)
        | _ => .bad) else .bad).Sat (fun o env' => ∀ ads' G' H' v, RS c r ads' G' H' σ env' → Nxt ads0 G0 H0 ads' G' H' → ResNew c r ads' G' H0 H' o v → Q v H') (XC c r W G0 σ)) (x dx : Addr) (hx : H x = none) (hdx : H dx = none) (ne : dx ≠ x) :
    spF c n F (.ref x :: (vs ++ dvs)) (upd (upd H dx (.own x)) x (.ins (c.C k) dx [])) (fun v H2 => v = .non ∧ Q (.ref x) H2) (WE W σ) := by
  have ld := (hd G).length
  have lx := pv.length
  by_cases nt : okCall n ds (.tr .non :: xs) = true
  rotate_left
  · rw [if_neg nt] at h; exact h.elim
  rw [if_pos nt] at h
  simp only [okCall, Bool.and_eq_true, beq_iff_eq, List.length_cons, slotsOf] at nt
  refine ⟨by simp only [List.length_cons, List.length_append, ld, lx]; omega, ?_⟩
  cases qa : argsOf env xs with
  | none => rw [qa] at h; exact h.elim
  | some args =>
    rw [qa] at h
    have st1 : Step [] H G (upd H dx (.own x)) G := Step.allocO R.sub hdx
    have hx1 : (upd H dx (.own x)) x = none := by rw [upd_ne (Ne.symm ne)]; exact hx
    have st2 : Step [] H G (upd (upd H dx (.own x)) x (.ins (c.C k) dx [])) G := st1.trans0 (Step.allocO st1.sub1 hx1)
    have R1 := R.next st2
    have ar := R1.arep pv qa
    have ap := R1.apart nt.1
    have gx : G x = none := by
      cases e : G x with
      | none => rfl
      | some u => rw [R.sub _ _ e] at hx; cases hx
    have fx : ∀ a ∈ (xs.map (adOf ads)).flatten, a ≠ x := fun a ha e => by
      obtain ⟨i, _, z⟩ := mem_adOf ha
      obtain ⟨u, e'⟩ := R.ownSome z
      rw [e, hx] at e'; cases e'
    have fl : (xs.map (adOf ads) ++ ds.map fun _ => []).flatten = (xs.map (adOf ads)).flatten := by rw [List.flatten_append, flatten_nils, List.append_nil]
    refine ⟨G, Arg.ow (.ins k []) :: (args ++ ds.map Arg.t), [x] :: (xs.map (adOf ads) ++ ds.map fun _ => []), st2.sub1, ⟨⟨x, rfl, rfl, dx, [], upd_same, rfl⟩, ar.append (ARep.trs (hd G))⟩, apart_new (apart_nils ap.1) (by rw [fl]; exact fx), fun a ha => ?_, ?_⟩
    · simp only [List.flatten_cons, fl] at ha
      rcases List.mem_append.mp ha with z | z
      · rw [List.mem_singleton.mp z]; exact gx
      · obtain ⟨i, _, y⟩ := mem_adOf z
        exact (R.own i a y).1
    · have hB : ∀ a ∈ ([x] :: (xs.map (adOf ads) ++ ds.map fun _ => [])).flatten, (∃ i, Vl.sl i ∈ xs ∧ a ∈ ads i) ∨ H a = none := fun a ha => by
        simp only [List.flatten_cons, fl] at ha
        rcases List.mem_append.mp ha with z | z
        · rw [List.mem_singleton.mp z]; exact .inr hx
        · exact .inl (mem_adOf z)
      cases qf : F (Arg.ow (.ins k []) :: (args ++ ds.map Arg.t)) with
      | bad => simp only [qf] at h; exact h.elim
      | ret a as =>
        simp only [qf] at h
        intro H' G' v st rr ar'
        have stA : Step ([x] :: (xs.map (adOf ads) ++ ds.map fun _ => [])).flatten H G H' G' := (st2.wide fun _ z => nomatch z).trans st fun a ha => .inl ha
        cases a with
        | ow o => exact h.elim
        | t t =>
          cases t with
          | non =>
            cases as with
            | nil => exact h.elim
            | cons a0 as =>
              cases a0 with
              | t _ => exact h.elim
              | ow o =>
                have rv : v = .non := rr
                refine ⟨rv, ?_⟩
                have ar2 := ARep.cutF (by simp [lx]) ar'.2
                rw [lx] at ar2
                have R' := R.call pv stA hB ar2
                obtain ⟨p, e, ow⟩ := ar'.1
                refine h ads G' H' (.ref x) R' (s0.trans (R.callNxt stA hB)) ⟨p, [x], e, ow, fun b hb => ?_⟩
                rw [List.mem_singleton.mp hb]
                refine ⟨⟨?_, R.step.there x hx, fun j hj => ?_⟩, s0.there x hx⟩
                · cases e : G' x with
                  | none => rfl
                  | some u =>
                    rcases st.new x u e with y | y | y
                    · rw [gx] at y; cases y
                    · rw [upd_same] at y; cases y
                    · exact absurd y (ow.nk x (List.mem_singleton.mpr rfl) u (st.sub1 _ _ e))
                · obtain ⟨u, e⟩ := R.ownSome hj
                  rw [hx] at e; cases e
          | _ => exact h.elim
      | exc ex as =>
        simp only [qf] at h
        intro H' G' cls d st rx ar'
        cases as with
        | nil => exact h.elim
        | cons a0 as =>
          have stA : Step ([x] :: (xs.map (adOf ads) ++ ds.map fun _ => [])).flatten H G H' G' := (st2.wide fun _ z => nomatch z).trans st fun a ha => .inl ha
          have ar2 := ARep.cutF (by simp [lx]) ar'.2
          rw [lx] at ar2
          exact h ads G' H' cls d (R.call pv stA hB ar2) (s0.sub.trans stA.sub) rx
theorem make_imp {k : Nat} (hd : ∀ G, RepL c G ds dvs) {σ : L2.St} {H : Hp} {Q : VK} (h : TRof c r W (rMake k n F ds el) σ H Q) : tMakeS (c.C k) (spF c n F) dvs (WE W) (TAof c r W el) σ H Q := by
  obtain ⟨ads, G, env, R, h⟩ := h
  exact ⟨ads, G, env, R, Sat_mono (Sat_bind.mp h) (fun xs e1 h1 ads1 G1 H1 vs R1 s1 p1 x dx hx hdx ne => make_core R1 s1 p1 hd h1 x dx hx hdx ne) fun _ _ z => z⟩
end

section
variable {X : Cx} {k : Nat} {f C : Addr} {fd : FuncData} {ps : List Str} {sp : Sp} {dvs : List V} {dw : List Value} {W : WX} {x m : Str} {p pos apos : Pos} {a o : Expr} {as : List Expr} {ta : TE} {t : TA}
theorem callS1 (F : FnG X.prog X.w X.K X.mg X.base k f fd ps sp) (hr : RoomG k X.A) (hg : Gl X x) (hm : X.mg x = some (.ref f)) (hk : PySem.W.keepIn X.K (.ref f) = true) (hb : Binds X.K fd ps dw) (hd : Vals dvs dw) (tk : Takes X W) (ha : PA X (a :: as) t)
    (hdb : (x == ("__debug__" : Str)) = false := by decide) (he : starEach (a :: as) X.env = (false, eval a X.env) :: starEach as X.env := by rfl) (hpl : (backTo pos (starEach as X.env)).any (·.1) = false := by rfl) : PE X (.Call (.Name x p) (a :: as) [] pos) (tCallSD sp dvs (WE W) t) := ⟨fun pn st σ Hh Qq J hq => by
  refine wpAny_Call_Name_kw (ld_glob J hg hm (PySem.W.callWith_K (h₀ := X.base) J.ok.mod.kin hk (thn (ha.run pos pn st σ Hh _ J hq) fun us s1 ⟨vs, H1, J1, rr, q⟩ => ⟨J1.kIn, ?_⟩) he hpl) hdb)
  exact runG F hb hd hr J1.ok.frames (passAt tk σ) J1 rr q⟩
theorem makeRun {pn : List (Addr × Obj)} {σ : L2.St} {Hh : Hp} {st : Shared} {Qq : VK} {us : List Value} {vs : List V} {E : XK} (M : Mk X.K C f) (F : FnG X.prog X.w X.K X.mg X.base k f fd ps sp) (hr : RoomG (k + 1) X.A) (hb : Binds X.K fd ps dw) (hd : Vals dvs dw)
    (hx : PassesAt (L2.CX X.prog X.w) X σ E) (J : Inv X pn σ Hh st) (rr : Vals vs us) (h : ∀ y dx, Hh y = none → Hh dx = none → dx ≠ y → sp (.ref y :: (vs ++ dvs)) (upd (upd Hh dx (.own y)) y (.ins C dx [])) (fun v H2 => v = .non ∧ Qq (.ref y) H2) E) :
    wpAny (model X.prog X.w) X.A (call (.ref C) us) (EP X pn σ Qq) X.xe st := by
  have hq := h (st.heap.objs.size + 1) st.heap.objs.size (J.hok.fresh (Nat.le_succ _)) (J.hok.fresh (Nat.le_refl _)) (Nat.ne_of_lt (Nat.lt_succ_self _))
  have J2 := Inv.made (C := C) J
  have rr2 : Vals (V.ref (st.heap.objs.size + 1) :: (vs ++ dvs)) (Value.ref (st.heap.objs.size + 1) :: (us ++ dw)) := .cons rfl (rr.append hd)
  have hl : (Value.ref (st.heap.objs.size + 1) :: us ++ dw).length = ps.length := (rr2.length.symm.trans (F.len _ _ _ _ hq))
  have run := F.run _ X.stack _ _ ⟨Value.ref (st.heap.objs.size + 1) :: us, []⟩ _ _ _ E (hr.make C us []) (J2.env0.make C us []) (hb _ (Value.ref (st.heap.objs.size + 1) :: us) J2.kIn hl) rr2 hq
  refine wpAny_call (make_map (f := f) J.kIn M.makes M.init (beq_iff_eq.mp M.fn) (codeAny_mono run fun z s' hz => ?_))
  match z, hz with
  | .error e, hz => exact hx pn _ _ e s' J2 hz
  | .ok (.ret u), hz =>
    obtain ⟨v, H', J3, rv, ev, q3⟩ := J2.after hz
    subst ev
    exact ⟨rv, ⟨V.ref (st.heap.objs.size + 1), H', J3, rfl, q3⟩⟩
  | .ok .next, hz => exact hz.elim
  | .ok .brk, hz => exact hz.elim
  | .ok .cont, hz => exact hz.elim
theorem makeS (M : Mk X.K C f) (F : FnG X.prog X.w X.K X.mg X.base k f fd ps sp) (hr : RoomG (k + 1) X.A) (hg : Gl X x) (hm : X.mg x = some (.ref C)) (hb : Binds X.K fd ps dw) (hd : Vals dvs dw) (tk : Takes X W)
    (ha : PA X (a :: as) t) (hdb : (x == ("__debug__" : Str)) = false := by decide) (he : starEach (a :: as) X.env = (false, eval a X.env) :: starEach as X.env := by rfl) (hpl : (backTo pos (starEach as X.env)).any (·.1) = false := by rfl) :
    PE X (.Call (.Name x p) (a :: as) [] pos) (tMakeS C sp dvs (WE W) t) := ⟨fun pn st σ Hh Qq J hq => by
  refine wpAny_Call_Name_kw (ld_glob J hg hm (PySem.W.callWith_K (h₀ := X.base) J.ok.mod.kin M.kp (thn (ha.run pos pn st σ Hh _ J hq) fun us s1 ⟨vs, H1, J1, rr, q⟩ => ⟨J1.kIn, ?_⟩) he hpl) hdb)
  exact makeRun M F hr hb hd (passAt tk σ) J1 rr q⟩
end
structure Fill (c : TC) (K : PySem.W.Frag) (fd : FuncData) (ps : List Str) (ds : List PV) : Prop where
  ex : ∃ (dvs : List V) (dw : List Value), Vals dvs dw ∧ Binds K fd ps dw ∧ ∀ G, RepL c G ds dvs
theorem Fill.all {c : TC} {K : PySem.W.Frag} {fd : FuncData} {ps : List Str} (h : Binds K fd ps []) : Fill c K fd ps [] := ⟨[], [], .nil, h, fun _ => rfl⟩
section
variable {X : Cx} {c : TC} {r : Ref} {W : WX} {F : FSem} {el : EvA} {ea : EvE} {n k kc : Nat} {ds : List PV} {f : Addr} {fd : FuncData} {ps : List Str} {x m : Str} {p pos apos : Pos} {a o : Expr} {as : List Expr}
theorem tr_call (hF : FnG X.prog X.w X.K X.mg X.base k f fd ps (spF c n F)) (hb : Fill c X.K fd ps ds) (hr : RoomG k X.A) (tk : Takes X W) (hg : Gl X x) (hm : X.mg x = some (.ref f)) (hk : PySem.W.keepIn X.K (.ref f) = true)
    (ha : PA X (a :: as) (TAof c r W el)) (hdb : (x == ("__debug__" : Str)) = false := by decide) (he : starEach (a :: as) X.env = (false, eval a X.env) :: starEach as X.env := by rfl) (hpl : (backTo pos (starEach as X.env)).any (·.1) = false := by rfl) :
    PE X (.Call (.Name x p) (a :: as) [] pos) (TRof c r W (rCall n F ds el)) := by
  obtain ⟨dvs, dw, h1, h2, h3⟩ := hb.ex
  exact PE.imp (callS1 hF hr hg hm hk h2 h1 tk ha hdb he hpl) fun σ Hh Q h => call_imp h3 h
theorem tr_make (M : Mk X.K (c.C kc) f) (hF : FnG X.prog X.w X.K X.mg X.base k f fd ps (spF c n F)) (hb : Fill c X.K fd ps ds) (hr : RoomG (k + 1) X.A) (tk : Takes X W) (hg : Gl X x) (hm : X.mg x = some (.ref (c.C kc)))
    (ha : PA X (a :: as) (TAof c r W el)) (hdb : (x == ("__debug__" : Str)) = false := by decide) (he : starEach (a :: as) X.env = (false, eval a X.env) :: starEach as X.env := by rfl) (hpl : (backTo pos (starEach as X.env)).any (·.1) = false := by rfl) :
    PE X (.Call (.Name x p) (a :: as) [] pos) (TRof c r W (rMake kc n F ds el)) := by
  obtain ⟨dvs, dw, h1, h2, h3⟩ := hb.ex
  exact PE.imp (makeS M hF hr hg hm h2 h1 tk ha hdb he hpl) fun σ Hh Q h => make_imp h3 h
end
end TreeL
end
section
namespace TreeL
open PySem PySem.Spec PyProof.Rows L2

mutual
def dat : Nat → PV → Bool
  | _, .non => true
  | _, .bl _ => true
  | _, .int _ => true
  | _, .str _ => true
  | n + 1, .lst xs => datL n xs
  | n + 1, .tup xs => datL n xs
  | _, _ => false
def datL : Nat → List PV → Bool
  | _, [] => true
  | n, x :: xs => dat n x && datL n xs
end
theorem datL_all {n : Nat} : ∀ {xs : List PV}, datL n xs = xs.all (dat n)
  | [] => by simp [datL]
  | x :: xs => by rw [datL, datL_all (xs := xs)]; rfl
mutual
def toD : PV → PyData
  | .non => .none
  | .bl b => .bool b
  | .int i => .int i
  | .str x => .str x
  | .lst xs => .list (toDs xs)
  | .tup xs => .tuple (toDs xs)
  | .ins _ _ => .none
  | .dct _ _ => .none
  | .scr _ => .none
  | .cls _ => .none
  | .slc _ _ _ => .none
def toDs : List PV → List PyData
  | [] => []
  | x :: xs => toD x :: toDs xs
end
mutual
def peq : PV → PV → Bool
  | .non, .non => true
  | .bl a, .bl b => a == b
  | .bl a, .int j => (if a then 1 else 0) == j
  | .int i, .bl b => i == (if b then 1 else 0)
  | .int i, .int j => i == j
  | .str x, .str y => x == y
  | .lst xs, .lst ys => peqL xs ys
  | .tup xs, .tup ys => peqL xs ys
  | _, _ => false
def peqL : List PV → List PV → Bool
  | [], [] => true
  | x :: xs, y :: ys => peq x y && peqL xs ys
  | _, _ => false
end
section
variable {c : TC} {H : Hp}
mutual
theorem Rep.dp : ∀ {t : PV} {n : Nat} {v : V}, dat n t = true → Rep c H t v → Dp c.K H v (toD t) ∧ (toD t).canLay0 = true ∧ (toD t).depth ≤ n
  | .non, n, v, _, h => by
    simp only [Rep] at h
    subst h
    exact ⟨by rw [toD]; exact .non, by simp [toD, PyData.canLay0], by simp [toD, PyData.depth]⟩
  | .bl b, n, v, _, h => by
    simp only [Rep] at h
    subst h
    exact ⟨by rw [toD]; exact .bl b, by simp [toD, PyData.canLay0], by simp [toD, PyData.depth]⟩
  | .int i, n, v, _, h => by
    simp only [Rep] at h
    subst h
    exact ⟨by rw [toD]; exact .int i, by simp [toD, PyData.canLay0], by simp [toD, PyData.depth]⟩
  | .str x, n, v, _, h => by
    simp only [Rep] at h
    obtain ⟨rfl, hx⟩ := h
    exact ⟨by rw [toD]; exact .str x, by rw [toD, PyData.canLay0]; exact hx.2, by simp [toD, PyData.depth]⟩
  | .lst xs, 0, v, d, h => by simp [dat] at d
  | .lst xs, n + 1, v, d, h => by
    simp only [Rep] at h
    obtain ⟨p, vs, rfl, hp, rr⟩ := h
    rw [dat] at d
    obtain ⟨h1, h2, h3⟩ := RepL.dp d rr
    exact ⟨by rw [toD]; exact .lst (.inl (.inl hp)) h1, by rw [toD, PyData.canLay0]; exact h2, by rw [toD, PyData.depth]; omega⟩
  | .tup xs, 0, v, d, h => by simp [dat] at d
  | .tup xs, n + 1, v, d, h => by
    simp only [Rep] at h
    obtain ⟨p, vs, rfl, hp, rr⟩ := h
    rw [dat] at d
    obtain ⟨h1, h2, h3⟩ := RepL.dp d rr
    exact ⟨by rw [toD]; exact .tup hp.t h1, by rw [toD, PyData.canLay0]; exact h2, by rw [toD, PyData.depth]; omega⟩
  | .ins k fs, n, v, d, h => by cases n <;> simp [dat] at d
  | .dct t kvs, n, v, d, h => by cases n <;> simp [dat] at d
  | .scr _, n, v, d, h => by cases n <;> simp [dat] at d
  | .cls _, n, v, d, h => by cases n <;> simp [dat] at d
  | .slc _ _ _, n, v, d, h => by cases n <;> simp [dat] at d
theorem RepL.dp : ∀ {t : List PV} {n : Nat} {v : List V}, datL n t = true → RepL c H t v → DpAll c.K H v (toDs t) ∧ PyData.canLayAll0 (toDs t) = true ∧ PyData.depthAll (toDs t) ≤ n
  | [], n, v, _, h => by
    cases h
    exact ⟨by rw [toDs]; exact .nil, by simp [toDs, PyData.canLayAll0], by simp [toDs, PyData.depthAll]⟩
  | t :: ts, n, v, d, ⟨u, r, e, a, b⟩ => by
    subst e
    rw [datL, Bool.and_eq_true] at d
    obtain ⟨h1, h2, h3⟩ := Rep.dp d.1 a
    obtain ⟨k1, k2, k3⟩ := RepL.dp d.2 b
    refine ⟨by rw [toDs]; exact .cons h1 k1, by rw [toDs, PyData.canLayAll0, h2, k2]; rfl, ?_⟩
    rw [toDs, PyData.depthAll]
    exact Nat.max_le.mpr ⟨h3, k3⟩
end
theorem Rep.shape {t : PV} {v : V} (d : dat 64 t = true) (h : Rep c H t v) : Dp c.K H v (toD t) ∧ SeqAt.shaped (toD t) = true := by
  obtain ⟨h1, h2, h3⟩ := h.dp d
  exact ⟨h1, by rw [SeqAt.shaped, h2]; simpa using h3⟩
end
mutual
theorem peq_eqv : ∀ {a b : PV} {n m : Nat}, dat n a = true → dat m b = true → PyData.eqv (toD a) (toD b) = peq a b
  | .ins _ _, _, n, _, h, _ => by cases n <;> simp [dat] at h
  | .dct _ _, _, n, _, h, _ => by cases n <;> simp [dat] at h
  | .scr _, _, n, _, h, _ => by cases n <;> simp [dat] at h
  | .cls _, _, n, _, h, _ => by cases n <;> simp [dat] at h
  | .slc _ _ _, _, n, _, h, _ => by cases n <;> simp [dat] at h
  | a, .ins _ _, _, m, _, h => by cases m <;> simp [dat] at h
  | a, .dct _ _, _, m, _, h => by cases m <;> simp [dat] at h
  | a, .scr _, _, m, _, h => by cases m <;> simp [dat] at h
  | a, .cls _, _, m, _, h => by cases m <;> simp [dat] at h
  | a, .slc _ _ _, _, m, _, h => by cases m <;> simp [dat] at h
  | .non, b, n, m, _, _ => by cases b <;> simp_all [toD, PyData.eqv, peq, dat]
  | .bl _, b, n, m, _, _ => by cases b <;> simp_all [toD, PyData.eqv, peq, dat]
  | .int _, b, n, m, _, _ => by cases b <;> simp_all [toD, PyData.eqv, peq, dat]
  | .str _, b, n, m, _, _ => by cases b <;> simp_all [toD, PyData.eqv, peq, dat]
  | .lst xs, b, 0, m, h, _ => by simp [dat] at h
  | .tup xs, b, 0, m, h, _ => by simp [dat] at h
  | .lst xs, b, n + 1, m, h, h' => by
    cases b with
    | lst ys =>
      cases m with
      | zero => simp [dat] at h'
      | succ m =>
        rw [dat] at h h'
        rw [toD, toD, PyData.eqv, peq]
        exact peqL_eqv h h'
    | _ => simp_all [toD, PyData.eqv, peq, dat]
  | .tup xs, b, n + 1, m, h, h' => by
    cases b with
    | tup ys =>
      cases m with
      | zero => simp [dat] at h'
      | succ m =>
        rw [dat] at h h'
        rw [toD, toD, PyData.eqv, peq]
        exact peqL_eqv h h'
    | _ => simp_all [toD, PyData.eqv, peq, dat]
theorem peqL_eqv : ∀ {a b : List PV} {n m : Nat}, datL n a = true → datL m b = true → PyData.eqvAll (toDs a) (toDs b) = peqL a b
  | [], [], _, _, _, _ => by simp [toDs, PyData.eqvAll, peqL]
  | [], _ :: _, _, _, _, _ => by simp [toDs, PyData.eqvAll, peqL]
  | _ :: _, [], _, _, _, _ => by simp [toDs, PyData.eqvAll, peqL]
  | x :: xs, y :: ys, n, m, h, h' => by
    rw [datL, Bool.and_eq_true] at h h'
    rw [toDs, toDs, PyData.eqvAll, peqL, peq_eqv h.1 h'.1, peqL_eqv h.2 h'.2]
end
theorem peqL_toDs {xs : List PV} {d : PV} {n m : Nat} (h : datL n xs = true) (h' : dat m d = true) : ((toDs xs).any fun z => PyData.eqv z (toD d)) = xs.any fun z => peq z d := by
  induction xs with
  | nil => rfl
  | cons x xs ih =>
    rw [datL, Bool.and_eq_true] at h
    rw [toDs, List.any_cons, List.any_cons, peq_eqv h.1 h', ih h.2]
mutual
theorem peq_self : ∀ {a : PV} {n : Nat}, dat n a = true → peq a a = true
  | .non, _, _ => by simp [peq]
  | .bl _, _, _ => by simp [peq]
  | .int _, _, _ => by simp [peq]
  | .str _, _, _ => by simp [peq]
  | .lst xs, 0, h => by simp [dat] at h
  | .tup xs, 0, h => by simp [dat] at h
  | .lst xs, n + 1, h => by rw [dat] at h; rw [peq]; exact peqL_self h
  | .tup xs, n + 1, h => by rw [dat] at h; rw [peq]; exact peqL_self h
  | .ins _ _, n, h => by cases n <;> simp [dat] at h
  | .dct _ _, n, h => by cases n <;> simp [dat] at h
  | .scr _, n, h => by cases n <;> simp [dat] at h
  | .cls _, n, h => by cases n <;> simp [dat] at h
  | .slc _ _ _, n, h => by cases n <;> simp [dat] at h
theorem peqL_self : ∀ {a : List PV} {n : Nat}, datL n a = true → peqL a a = true
  | [], _, _ => by simp [peqL]
  | x :: xs, n, h => by
    rw [datL, Bool.and_eq_true] at h
    rw [peqL, peq_self h.1, peqL_self h.2]; rfl
end

def QRes (c : TC) (G H : Hp) : Arg → V → Hp → Hp → Prop
  | .t t, v, H', G' => Step [] H G H' G' ∧ Rep c G' t v
  | .ow (.lst ts), v, H', G' => G' = G ∧ ∃ p vs, v = .ref p ∧ H p = none ∧ H' = upd H p (.lst vs) ∧ RepL c G ts vs
  | .ow (.dct b kvs), v, H', G' => G' = G ∧ ∃ p ho, v = .ref p ∧ H p = none ∧ H' = upd H p ho ∧ OwRep c G H' p [p] (.dct b kvs)
  | .ow _, _, _, _ => False
def QOut (c : TC) (G H : Hp) (a : Arg) (Q : VK) : Prop := ∀ v H' G', QRes c G H a v H' G' → Q v H'
def OpQ (X : Cx) (c : TC) (g : Value → Value → Sem Value) (f : PV → PV → Option Arg) : Prop :=
  ∀ G H t1 t2 t v1 v2 Q, f t1 t2 = some t → Sub G H → WRep c G H t1 v1 → WRep c G H t2 v2 → QOut c G H t Q → rAny2 X g v1 v2 H Q
def CallQ (X : Cx) (c : TC) (g : Value) (f : List PV → Option Arg) : Prop :=
  ∀ G H ts t vs Q, f ts = some t → Sub G H → Paired (WRep c G H) ts vs → QOut c G H t Q → ∃ r, CallR X g r ∧ r vs H Q
@[simp] def looks (env : En) : List Vl → Option (List PV)
  | [] => some []
  | x :: xs => match look env x, looks env xs with
    | some t, some ts => some (t :: ts)
    | _, _ => none
@[simp] def rBin (f : PV → PV → Option Arg) (ea eb : EvE) : EvR := fun env => (ea env).bind fun a e1 => (eb e1).bind fun b e2 =>
  match look e2 a, look e2 b with
  | some x, some y => ofO (f x y) e2
  | _, _ => .bad
@[simp] def rBui (f : List PV → Option Arg) (el : EvA) : EvR := fun env => (el env).bind fun xs e => match looks e xs with
  | some ts => ofO (f ts) e
  | none => .bad
def tval (f : PV → PV → Option PV) : PV → PV → Option Arg := fun a b => (f a b).map Arg.t
theorem OpP.q {X : Cx} {c : TC} {g : Value → Value → Sem Value} {f : PV → PV → Option PV} (h : OpP X c g f) : OpQ X c g (tval f) := fun G H t1 t2 t v1 v2 Q e s w1 w2 q => by
  simp only [tval] at e
  cases z : f t1 t2 with
  | none => rw [z] at e; cases e
  | some u => rw [z] at e; cases e; exact h G H t1 t2 u v1 v2 Q z s w1 w2 fun v H' G' st p => q v H' G' ⟨st, p⟩
section
variable {X : Cx} {c : TC} {r : Ref} {W : WX} {a b o e : Expr} {as es : List Expr} {ea eb : EvE} {el : EvA} {pos p apos : Pos}
theorem QOut.res {ads0 ads : Nat → List Addr} {G0 H0 G H : Hp} {σ : L2.St} {env : En} {o : Arg} {Q : VK} (R : RS c r ads G H σ env) (s0 : Nxt ads0 G0 H0 ads G H)
    (h : ∀ ads' G' H' v, RS c r ads' G' H' σ env → Nxt ads0 G0 H0 ads' G' H' → ResNew c r ads' G' H0 H' o v → Q v H') : QOut c G H o Q := fun v H' G' q => by
  cases o with
  | t t => exact h ads G' H' v (R.next q.1) (s0.trans (Nxt.of q.1)) q.2
  | ow o =>
    cases o with
    | lst ts =>
      obtain ⟨rfl, p, vs, rfl, hp, rfl, rr⟩ := q
      exact h ads G' _ (.ref p) (R.lay hp) (s0.trans (Nxt.of (Step.allocO R.sub hp))) ⟨p, [p], rfl, ⟨rfl, vs, upd_same, rr⟩, fun b hb => by rw [List.mem_singleton.mp hb]; exact ⟨New.of R hp, s0.there p hp⟩⟩
    | dct k kvs =>
      obtain ⟨rfl, p, ho, rfl, hp, rfl, ow⟩ := q
      exact h ads G' _ (.ref p) (R.lay hp) (s0.trans (Nxt.of (Step.allocO R.sub hp))) ⟨p, [p], rfl, ow, fun b hb => by rw [List.mem_singleton.mp hb]; exact ⟨New.of R hp, s0.there p hp⟩⟩
    | ins _ _ => exact q.elim
    | boxD _ _ => exact q.elim
    | boxL _ _ => exact q.elim
    | lof _ _ => exact q.elim
    | pr _ _ => exact q.elim
    | dol _ => exact q.elim
    | scrT _ => exact q.elim
    | boxF _ _ => exact q.elim
theorem rbin_imp {g : Value → Value → Sem Value} {f : PV → PV → Option Arg} (ho : OpQ X c g f) {σ : L2.St} {H : Hp} {Q : VK} (h : TRof c r W (rBin f ea eb) σ H Q) : tOp (rAny2 X g) (TEof c r W ea) (TEof c r W eb) σ H Q := by
  obtain ⟨ads, G, env, R, h⟩ := h
  refine ⟨ads, G, env, R, Sat_mono (Sat_bind.mp h) (fun x e1 h1 ads1 G1 H1 v1 R1 s1 p1 => ?_) fun _ _ z => z⟩
  refine ⟨ads1, G1, e1, R1, Sat_mono (Sat_bind.mp h1) (fun y e2 h2 ads2 G2 H2 v2 R2 s2 p2 => ?_) fun x e z => z.weak s1.sub⟩
  cases q1 : look e2 x with
  | none => rw [q1] at h2; exact h2.elim
  | some t1 =>
    rw [q1] at h2
    cases q2 : look e2 y with
    | none => rw [q2] at h2; exact h2.elim
    | some t2 =>
      rw [q2] at h2
      obtain ⟨t, ht, h2⟩ := Sat_ofO.mp h2
      exact ho G2 H2 t1 t2 t v1 v2 Q ht R2.sub (look_rep R2 (p1.mono s2.sub) q1) (look_rep R2 p2 q2) (QOut.res R2 (s1.trans s2) h2)
theorem tr_bin {op : Operator} {f : PV → PV → Option Arg} (ho : OpQ X c (binaryOp op) f) (ha : PE X a (TEof c r W ea)) (hb : PE X b (TEof c r W eb)) : PE X (.BinOp a op b pos) (TRof c r W (rBin f ea eb)) :=
  PE.imp (pe_op opAny ha hb) fun _ _ _ h => rbin_imp ho h
theorem looks_rep {ads : Nat → List Addr} {G H : Hp} {σ : L2.St} {env : En} (R : RS c r ads G H σ env) : ∀ {xs : List Vl} {vs : List V} {ts : List PV}, VReps c σ G xs vs → looks env xs = some ts → Paired (WRep c G H) ts vs
  | [], _, _, h, e => by cases h; cases e; exact .nil
  | x :: xs, _, ts, ⟨v, u, e1, h, t⟩, e => by
    subst e1
    simp only [looks] at e
    cases q : look env x with
    | none => rw [q] at e; cases e
    | some a =>
      rw [q] at e
      cases q2 : looks env xs with
      | none => rw [q2] at e; cases e
      | some us =>
        rw [q2] at e
        cases e
        exact .cons (look_rep R h q) (looks_rep R t q2)
theorem rbui_imp {g : Value} {f : List PV → Option Arg} (ho : CallQ X c g f) {σ : L2.St} {H : Hp} {Q : VK} (h : TRof c r W (rBui f el) σ H Q) : tCB (fun vs H Q => ∃ r, CallR X g r ∧ r vs H Q) (TAof c r W el) σ H Q := by
  obtain ⟨ads, G, env, R, h⟩ := h
  refine ⟨ads, G, env, R, Sat_mono (Sat_bind.mp h) (fun xs e1 h1 ads1 G1 H1 vs R1 s1 p1 => ?_) fun _ _ z => z⟩
  cases q : looks e1 xs with
  | none => rw [q] at h1; exact h1.elim
  | some ts =>
    rw [q] at h1
    obtain ⟨t, ht, h2⟩ := Sat_ofO.mp h1
    exact ho G1 H1 ts t vs Q ht R1.sub (looks_rep R1 p1 q) (QOut.res R1 s1 h2)
theorem callAny {g : Value} : CallR X g (fun vs H Q => ∃ r, CallR X g r ∧ r vs H Q) := fun pins s σ H xs us Q I rr ⟨r, h, q⟩ => h pins s σ H xs us Q I rr q
theorem tr_bui {x : Str} {id : String} {f : List PV → Option Arg} (ho : CallQ X c (.builtin id) f) (hg : Gl X x) (hm : X.mg x = none) (hv : bootBuiltins x = some (.builtin id)) (ha : PA X (a :: as) (TAof c r W el)) (hn : x ≠ "__name__" := by decide) (hdb : (x == ("__debug__" : Str)) = false := by decide)
    (he : starEach (a :: as) X.env = (false, eval a X.env) :: starEach as X.env := by rfl) (hpl : (backTo pos (starEach as X.env)).any (·.1) = false := by rfl) : PE X (.Call (.Name x p) (a :: as) [] pos) (TRof c r W (rBui f el)) :=
  PE.imp (pe_callB callAny hg hm hv ha hn hdb he hpl) fun _ _ _ h => rbui_imp ho h
theorem tr_buiT {x : Str} {T : String} {f : List PV → Option Arg} (ho : CallQ X c (.type T) f) (hg : Gl X x) (hm : X.mg x = none) (hv : bootBuiltins x = some (.type T)) (ha : PA X (a :: as) (TAof c r W el)) (hn : x ≠ "__name__" := by decide) (hdb : (x == ("__debug__" : Str)) = false := by decide)
    (he : starEach (a :: as) X.env = (false, eval a X.env) :: starEach as X.env := by rfl) (hpl : (backTo pos (starEach as X.env)).any (·.1) = false := by rfl) : PE X (.Call (.Name x p) (a :: as) [] pos) (TRof c r W (rBui f el)) :=
  PE.imp (pe_callTy callAny hg hm hv ha hn hdb he hpl) fun _ _ _ h => rbui_imp ho h
end
end TreeL
end
section
namespace TreeL
open PySem PySem.Spec PyProof.Rows L2

def cpOk (l : List Nat) : Prop := ∀ n ∈ l, n < 0x110000
theorem strG_iff {x : Str} : StrG x ↔ (TL.tl x).length ≤ sizeLine ∧ cpOk (TL.tl x) := by
  unfold StrG PyData.strOk cpOk
  rw [TL.len_tl, ← Array.all_toList, List.all_eq_true]
  simp
theorem cpOk.append {l m : List Nat} (h : cpOk l) (h' : cpOk m) : cpOk (l ++ m) := fun n hn => by
  rcases List.mem_append.mp hn with z | z
  · exact h n z
  · exact h' n z
theorem StrG.sub {x y : Str} (h : StrG x) (s : ∀ n ∈ TL.tl y, n ∈ TL.tl x) (l : (TL.tl y).length ≤ (TL.tl x).length) : StrG y := by
  rw [strG_iff] at h ⊢
  exact ⟨Nat.le_trans l h.1, fun n hn => h.2 n (s n hn)⟩
theorem StrG.add {x y : Str} (h : StrG x) (h' : StrG y) (l : x.length + y.length ≤ LIM) : StrG (x ++ y) := by
  rw [strG_iff] at h h' ⊢
  rw [TL.tl_append]
  refine ⟨?_, h.2.append h'.2⟩
  rw [List.length_append, ← TL.len_tl, ← TL.len_tl]
  exact lim_line l
theorem strG_sub {z : Str} (h : StrG z) {l : List Nat} (hl : l.Sublist (TL.tl z)) : StrG ⟨l.toArray⟩ := h.sub (fun n hn => hl.subset (by simpa [TL.tl] using hn)) (by simpa [TL.tl] using hl.length_le)
def eqP (a b : PV) : Option PV := if dat 64 a && dat 64 b then some (.bl (peq a b)) else none
def neP (a b : PV) : Option PV := if dat 64 a && dat 64 b then some (.bl (!peq a b)) else none
def addA : PV → PV → Option Arg
  | .int i, .int j => some (.t (.int (i + j)))
  | .str x, .str y => if x.length + y.length ≤ LIM then some (.t (.str (x ++ y))) else none
  | .lst xs, .lst ys => if xs.length + ys.length ≤ LIM then some (.ow (.lst (xs ++ ys))) else none
  | .tup xs, .tup ys => if xs.length + ys.length ≤ LIM then some (.t (.tup (xs ++ ys))) else none
  | _, _ => none
@[simp] def subP : PV → PV → Option PV
  | .int i, .int j => some (.int (i - j))
  | _, _ => none
def mulA : PV → PV → Option Arg
  | .int i, .int j => if i.natAbs.log2 + j.natAbs.log2 < 1000000 then some (.t (.int (i * j))) else none
  | .lst xs, .int k => if 0 ≤ k ∧ k ≤ 1000000 ∧ xs.length * k.toNat ≤ LIM then some (.ow (.lst (List.replicate k.toNat xs).flatten)) else none
  | _, _ => none
@[simp] def fdivP : PV → PV → Option PV
  | .int i, .int j => if 0 < j ∧ j.natAbs.log2 < 9000 then some (.int (i / j)) else none
  | _, _ => none
@[simp] def modP : PV → PV → Option PV
  | .int i, .int j => if 0 < j then some (.int (i % j)) else none
  | _, _ => none
def powP : PV → PV → Option PV
  | .int i, .int j => if 0 ≤ j ∧ j ≤ 1000000 ∧ i.natAbs < 2 ^ 64 then some (.int (i ^ j.toNat)) else none
  | _, _ => none
@[simp] def ltP : PV → PV → Option PV
  | .int i, .int j => some (.bl (decide (i < j)))
  | .str x, .str y => some (.bl (decide (x.cps.toList < y.cps.toList)))
  | _, _ => none
@[simp] def leP : PV → PV → Option PV
  | .int i, .int j => some (.bl (decide (i ≤ j)))
  | .str x, .str y => some (.bl (!decide (y.cps.toList < x.cps.toList)))
  | _, _ => none
@[simp] def gtP : PV → PV → Option PV
  | .int i, .int j => some (.bl (decide (j < i)))
  | .str x, .str y => some (.bl (decide (y.cps.toList < x.cps.toList)))
  | _, _ => none
@[simp] def geP : PV → PV → Option PV
  | .int i, .int j => some (.bl (decide (j ≤ i)))
  | .str x, .str y => some (.bl (!decide (x.cps.toList < y.cps.toList)))
  | _, _ => none
def inS (x y : Str) : Bool := match x.cps.toList with
  | [n] => decide (n ∈ y.cps.toList)
  | _ => !(Builtin.Str.occurrences y x 0 y.length 1).isEmpty
def inB : PV → PV → Option Bool
  | .str x, .str y => some (inS x y)
  | k, .lst xs => if dat 63 k && datL 63 xs then some (xs.any fun z => peq z k) else none
  | k, .tup xs => if dat 63 k && datL 63 xs then some (xs.any fun z => peq z k) else none
  | _, _ => none
def inP (a b : PV) : Option PV := (inB a b).map .bl
def ninP (a b : PV) : Option PV := (inB a b).map fun k => .bl (!k)
@[simp] def isNon : PV → Bool
  | .non => true
  | _ => false
@[simp] def isNP : PV → PV → Option PV
  | a, .non => some (.bl (isNon a))
  | _, _ => none
@[simp] def notNP : PV → PV → Option PV
  | a, .non => some (.bl (!isNon a))
  | _, _ => none
@[simp] def negP : PV → Option PV
  | .int i => some (.int (-i))
  | _ => none

section
variable {X : Cx} {c : TC}
theorem VOut.same {G H : Hp} {t : PV} {Q : VK} (h : VOut c G H t Q) (s : Sub G H) {v : V} (r : Rep c G t v) : Q v H := h v H G (Step.refl s) r
theorem VOut.flat {G H : Hp} {t : PV} {Q : VK} (h : VOut c G H t Q) (s : Sub G H) {v : V} (r : ∀ G, Rep c G t v) : Q v H := h v H G (Step.refl s) (r G)
theorem rep_bl {k : Bool} (G : Hp) : Rep c G (.bl k) (.bl k) := by simp [Rep]
theorem rep_int {k : Int} (G : Hp) : Rep c G (.int k) (.int k) := by simp [Rep]
theorem rep_non (G : Hp) : Rep c G .non .non := by simp [Rep]
theorem rep_str {x : Str} (h : StrG x) (G : Hp) : Rep c G (.str x) (.str x) := by simp only [Rep]; exact ⟨trivial, h⟩
theorem ite_some {α : Type} {p : Prop} [Decidable p] {x y : α} (h : (if p then some x else none) = some y) : p ∧ x = y := by
  by_cases hp : p
  · rw [if_pos hp] at h; exact ⟨hp, by cases h; rfl⟩
  · rw [if_neg hp] at h; cases h
theorem op_eqP (hK : X.K = c.K) (hu : X.A.units + 64 < cLine) : OpP X c (compareOp .Eq) eqP := fun G H t1 t2 t v1 v2 Q e s w1 w2 q => by
  obtain ⟨d, rfl⟩ := ite_some e
  rw [Bool.and_eq_true] at d
  obtain ⟨a1, a2⟩ := (w1.rep s).shape d.1
  obtain ⟨b1, b2⟩ := (w2.rep s).shape d.2
  refine ⟨_, op_eqD hu, toD t1, toD t2, by rw [hK]; exact a1, by rw [hK]; exact b1, a2, b2, ?_⟩
  rw [peq_eqv d.1 d.2]
  exact q.flat s rep_bl
theorem op_neP (hK : X.K = c.K) (hu : X.A.units + 64 < cLine) : OpP X c (compareOp .NotEq) neP := fun G H t1 t2 t v1 v2 Q e s w1 w2 q => by
  obtain ⟨d, rfl⟩ := ite_some e
  rw [Bool.and_eq_true] at d
  obtain ⟨a1, a2⟩ := (w1.rep s).shape d.1
  obtain ⟨b1, b2⟩ := (w2.rep s).shape d.2
  refine ⟨_, op_neD hu, toD t1, toD t2, by rw [hK]; exact a1, by rw [hK]; exact b1, a2, b2, ?_⟩
  rw [peq_eqv d.1 d.2]
  exact q.flat s rep_bl
theorem QOut.t {G H : Hp} {t : PV} {Q : VK} (h : QOut c G H (.t t) Q) : VOut c G H t Q := fun v H' G' s r => h v H' G' ⟨s, r⟩
theorem QOut.list {G H : Hp} {ts : List PV} {vs : List V} {Q : VK} (h : QOut c G H (.ow (.lst ts)) Q) (r : RepL c G ts vs) : ∀ p, H p = none → Q (.ref p) (upd H p (.lst vs)) := fun p hp => h (.ref p) _ G ⟨rfl, p, vs, rfl, hp, rfl, r⟩
theorem VOut.tup {G H : Hp} {ts : List PV} {vs : List V} {Q : VK} (h : VOut c G H (.tup ts) Q) (s : Sub G H) (r : RepL c G ts vs) : ∀ p, H p = none → Q (.ref p) (upd H p (.tup vs)) := fun p hp => by
  have st := Step.alloc (o := .tup vs) s hp
  refine h _ _ _ st ?_
  simp only [Rep]
  exact ⟨p, vs, rfl, .inl upd_same, r.mono st.sub⟩
theorem op_addA (hK : X.K = c.K) : OpQ X c (binaryOp .Add) addA := fun G H t1 t2 t v1 v2 Q e s w1 w2 q => by
  unfold addA at e
  split at e
  · cases w1; cases w2; cases e
    exact ⟨_, op_add, _, _, rfl, rfl, q.t.flat s rep_int⟩
  · obtain ⟨hl, rfl⟩ := ite_some e
    obtain ⟨rfl, g1⟩ := w1
    obtain ⟨rfl, g2⟩ := w2
    exact ⟨_, op_add_str, _, _, rfl, rfl, lim_line hl, q.t.flat s (rep_str (g1.add g2 hl))⟩
  · obtain ⟨hl, rfl⟩ := ite_some e
    obtain ⟨p1, vs1, rfl, h1, r1⟩ := w1
    obtain ⟨p2, vs2, rfl, h2, r2⟩ := w2
    exact ⟨_, op_cat, p1, p2, vs1, vs2, rfl, rfl, h1, h2, by rw [r1.length, r2.length]; exact lim_line hl, q.list (r1.append r2)⟩
  · obtain ⟨hl, rfl⟩ := ite_some e
    obtain ⟨p1, vs1, rfl, h1, r1⟩ := w1
    obtain ⟨p2, vs2, rfl, h2, r2⟩ := w2
    refine ⟨_, op_catA, p1, p2, vs1, vs2, rfl, rfl, by rw [hK]; exact s.sqT h1, by rw [hK]; exact s.sqT h2, by rw [r1.length, r2.length]; exact lim_line hl, fun z => q.t.same s ?_, fun _ z => q.t.same s ?_, fun _ _ => q.t.tup s (r1.append r2)⟩
    · simp only [Rep]
      refine ⟨p2, vs2, rfl, h2, ?_⟩
      have e := r1.append r2
      rw [z, List.nil_append] at e
      exact e
    · simp only [Rep]
      refine ⟨p1, vs1, rfl, h1, ?_⟩
      have e := r1.append r2
      rw [z, List.append_nil] at e
      exact e
  · cases e
theorem op_subP : OpP X c (binaryOp .Sub) subP := fun G H t1 t2 t v1 v2 Q e s w1 w2 q => by
  unfold subP at e
  split at e
  · cases w1; cases w2; cases e
    exact ⟨_, op_sub, _, _, rfl, rfl, q.flat s rep_int⟩
  · cases e
theorem op_mulA : OpQ X c (binaryOp .Mult) mulA := fun G H t1 t2 t v1 v2 Q e s w1 w2 q => by
  unfold mulA at e
  split at e
  · obtain ⟨hl, rfl⟩ := ite_some e
    cases w1; cases w2
    exact ⟨_, op_mulW, _, _, rfl, rfl, hl, q.t.flat s rep_int⟩
  · obtain ⟨hl, rfl⟩ := ite_some e
    obtain ⟨p1, vs1, rfl, h1, r1⟩ := w1
    cases w2
    have rr : ∀ n : Nat, ∀ {xs : List PV} {vs : List V}, RepL c G xs vs → RepL c G (List.replicate n xs).flatten (List.replicate n vs).flatten := fun n => by
      induction n with
      | zero => intro xs vs _; exact RepL.nil
      | succ n ih => intro xs vs r; rw [List.replicate_succ, List.replicate_succ]; exact r.append (ih r)
    exact ⟨_, op_rep, p1, _, vs1, rfl, rfl, h1, by omega, by omega, by rw [r1.length]; exact lim_line hl.2.2, q.list (rr _ r1)⟩
  · cases e
theorem op_fdivP : OpP X c (binaryOp .FloorDiv) fdivP := fun G H t1 t2 t v1 v2 Q e s w1 w2 q => by
  unfold fdivP at e
  split at e
  · obtain ⟨hl, rfl⟩ := ite_some e
    cases w1; cases w2
    exact ⟨_, op_fdivW, _, _, rfl, rfl, hl, q.flat s rep_int⟩
  · cases e
theorem op_modP : OpP X c (binaryOp .Mod) modP := fun G H t1 t2 t v1 v2 Q e s w1 w2 q => by
  unfold modP at e
  split at e
  · obtain ⟨hl, rfl⟩ := ite_some e
    cases w1; cases w2
    exact ⟨_, op_mod, _, _, rfl, rfl, hl, q.flat s rep_int⟩
  · cases e
theorem op_powP : OpP X c (binaryOp .Pow) powP := fun G H t1 t2 t v1 v2 Q e s w1 w2 q => by
  unfold powP at e
  split at e
  · obtain ⟨hl, rfl⟩ := ite_some e
    cases w1; cases w2
    exact ⟨_, op_pow, _, _, rfl, rfl, hl, q.flat s rep_int⟩
  · cases e
theorem op_ltP : OpP X c (compareOp .Lt) ltP := fun G H t1 t2 t v1 v2 Q e s w1 w2 q => by
  unfold ltP at e
  split at e
  · cases w1; cases w2; cases e
    exact ⟨_, op_lt, _, _, rfl, rfl, q.flat s rep_bl⟩
  · obtain ⟨rfl, g1⟩ := w1
    obtain ⟨rfl, g2⟩ := w2
    cases e
    exact ⟨_, op_lt_str, _, _, rfl, rfl, q.flat s rep_bl⟩
  · cases e
theorem op_leP : OpP X c (compareOp .LtE) leP := fun G H t1 t2 t v1 v2 Q e s w1 w2 q => by
  unfold leP at e
  split at e
  · cases w1; cases w2; cases e
    exact ⟨_, op_le, _, _, rfl, rfl, q.flat s rep_bl⟩
  · obtain ⟨rfl, g1⟩ := w1
    obtain ⟨rfl, g2⟩ := w2
    cases e
    exact ⟨_, op_le_str, _, _, rfl, rfl, q.flat s rep_bl⟩
  · cases e
theorem op_gtP : OpP X c (compareOp .Gt) gtP := fun G H t1 t2 t v1 v2 Q e s w1 w2 q => by
  unfold gtP at e
  split at e
  · cases w1; cases w2; cases e
    exact ⟨_, op_gt, _, _, rfl, rfl, q.flat s rep_bl⟩
  · obtain ⟨rfl, g1⟩ := w1
    obtain ⟨rfl, g2⟩ := w2
    cases e
    exact ⟨_, op_gt_str, _, _, rfl, rfl, q.flat s rep_bl⟩
  · cases e
theorem op_geP : OpP X c (compareOp .GtE) geP := fun G H t1 t2 t v1 v2 Q e s w1 w2 q => by
  unfold geP at e
  split at e
  · cases w1; cases w2; cases e
    exact ⟨_, op_ge, _, _, rfl, rfl, q.flat s rep_bl⟩
  · obtain ⟨rfl, g1⟩ := w1
    obtain ⟨rfl, g2⟩ := w2
    cases e
    exact ⟨_, op_ge_str, _, _, rfl, rfl, q.flat s rep_bl⟩
  · cases e
theorem one_sign {x : Str} {n : Nat} (h : x.cps.toList = [n]) : x = ⟨#[n]⟩ := TL.ext_tl h
def rInT (K : PySem.W.Frag) (neg : Bool) : R2 := fun x y H Q => ∃ d ds, Dp K H x d ∧ Dp K H y (.tuple ds) ∧ SeqAt.shaped d = true ∧ SeqAt.shaped (.tuple ds) = true ∧ Q (.bl (if neg then !(ds.any fun z => PyData.eqv z d) else ds.any fun z => PyData.eqv z d)) H
theorem op_inT (hu : X.A.units + 65 < cLine) : OpR X (compareOp .In) (rInT X.K false) := fun pins st σ H x y v u Q I rx ry ⟨d, ds, hd, he, sd, se, q⟩ => by
  obtain ⟨as, r1⟩ := Dp.reads I d x v hd rx
  obtain ⟨bs, r2⟩ := Dp.reads I (.tuple ds) y u he ry
  exact SeqAt.in_tuple_reads r2 r1 (SeqAt.canLay_of_shaped se) (SeqAt.canLay_of_shaped sd) (room_in_shaped sd hu) ⟨.bl _, H, I, rfl, q⟩
theorem op_notInT (hu : X.A.units + 65 < cLine) : OpR X (compareOp .NotIn) (rInT X.K true) := fun pins st σ H x y v u Q I rx ry ⟨d, ds, hd, he, sd, se, q⟩ => by
  obtain ⟨as, r1⟩ := Dp.reads I d x v hd rx
  obtain ⟨bs, r2⟩ := Dp.reads I (.tuple ds) y u he ry
  exact SeqAt.notIn_tuple_reads r2 r1 (SeqAt.canLay_of_shaped se) (SeqAt.canLay_of_shaped sd) (room_in_shaped sd hu) ⟨.bl _, H, I, rfl, q⟩
theorem dat_mono : ∀ {n m : Nat} {t : PV}, n ≤ m → dat n t = true → dat m t = true := by
  have key : ∀ n : Nat, (∀ m t, n ≤ m → dat n t = true → dat m t = true) := fun n => by
    induction n with
    | zero => intro m t _ h; cases t <;> cases m <;> simp_all [dat]
    | succ n ih =>
      intro m t hm h
      cases m with
      | zero => omega
      | succ m =>
        have hl : ∀ xs : List PV, datL n xs = true → datL m xs = true := fun xs => by
          induction xs with
          | nil => intro _; simp [datL]
          | cons x xs ihx =>
            intro hx
            rw [datL, Bool.and_eq_true] at hx ⊢
            exact ⟨ih m x (by omega) hx.1, ihx hx.2⟩
        cases t with
        | lst xs => rw [dat] at h ⊢; exact hl xs h
        | tup xs => rw [dat] at h ⊢; exact hl xs h
        | ins _ _ => simp [dat] at h
        | dct _ _ => simp [dat] at h
        | scr _ => simp [dat] at h
        | cls _ => simp [dat] at h
        | slc _ _ _ => simp [dat] at h
        | _ => simp [dat]
  exact fun {n m t} h1 h2 => key n m t h1 h2
theorem in_seq_fact {G H : Hp} {t1 : PV} {xs : List PV} {v1 : V} {b : Bool} (s : Sub G H) (e : (if dat 63 t1 && datL 63 xs then some (xs.any fun z => peq z t1) else none) = some b) (w1 : WRep c G H t1 v1) :
    Dp c.K H v1 (toD t1) ∧ SeqAt.shaped (toD t1) = true ∧ datL 63 xs = true ∧ b = ((toDs xs).any fun z => PyData.eqv z (toD t1)) := by
  obtain ⟨d, rfl⟩ := ite_some e
  rw [Bool.and_eq_true] at d
  obtain ⟨a1, a2⟩ := (w1.rep s).shape (dat_mono (by omega) d.1)
  exact ⟨a1, a2, d.2, (peqL_toDs d.2 d.1).symm⟩
theorem op_inP (hK : X.K = c.K) (hu : X.A.units + 65 < cLine) : OpP X c (compareOp .In) inP := fun G H t1 t2 t v1 v2 Q e s w1 w2 q => by
  unfold inP at e
  cases qb : inB t1 t2 with
  | none => rw [qb] at e; cases e
  | some b =>
    rw [qb] at e
    cases e
    unfold inB at qb
    split at qb
    · obtain ⟨rfl, g1⟩ := w1
      obtain ⟨rfl, g2⟩ := w2
      rename_i x y
      cases qb
      unfold inS at q
      split at q
      · rename_i n hn
        exact ⟨_, op_in_sign, n, y, by rw [one_sign hn], rfl, q.flat s rep_bl⟩
      · exact ⟨_, op_in_str, _, _, rfl, rfl, q.flat s rep_bl⟩
    · rename_i k xs
      obtain ⟨a1, a2, d, rfl⟩ := in_seq_fact s qb w1
      obtain ⟨b1, b2⟩ := (w2.rep s).shape (t := .lst xs) (by rw [dat]; exact d)
      rw [toD] at b1 b2
      exact ⟨_, op_inD hu, toD t1, toDs xs, by rw [hK]; exact a1, by rw [hK]; exact b1, a2, b2, q.flat s rep_bl⟩
    · rename_i k xs
      obtain ⟨a1, a2, d, rfl⟩ := in_seq_fact s qb w1
      obtain ⟨b1, b2⟩ := (w2.rep s).shape (t := .tup xs) (by rw [dat]; exact d)
      rw [toD] at b1 b2
      exact ⟨_, op_inT hu, toD t1, toDs xs, by rw [hK]; exact a1, by rw [hK]; exact b1, a2, b2, q.flat s rep_bl⟩
    · cases qb
theorem op_ninP (hK : X.K = c.K) (hu : X.A.units + 65 < cLine) : OpP X c (compareOp .NotIn) ninP := fun G H t1 t2 t v1 v2 Q e s w1 w2 q => by
  unfold ninP at e
  cases qb : inB t1 t2 with
  | none => rw [qb] at e; cases e
  | some b =>
    rw [qb] at e
    cases e
    unfold inB at qb
    split at qb
    · obtain ⟨rfl, g1⟩ := w1
      obtain ⟨rfl, g2⟩ := w2
      rename_i x y
      cases qb
      unfold inS at q
      split at q
      · rename_i n hn
        exact ⟨_, op_notIn_sign, n, y, by rw [one_sign hn], rfl, q.flat s rep_bl⟩
      · exact ⟨_, op_notIn_str, _, _, rfl, rfl, q.flat s rep_bl⟩
    · rename_i k xs
      obtain ⟨a1, a2, d, rfl⟩ := in_seq_fact s qb w1
      obtain ⟨b1, b2⟩ := (w2.rep s).shape (t := .lst xs) (by rw [dat]; exact d)
      rw [toD] at b1 b2
      exact ⟨_, op_notInD hu, toD t1, toDs xs, by rw [hK]; exact a1, by rw [hK]; exact b1, a2, b2, q.flat s rep_bl⟩
    · rename_i k xs
      obtain ⟨a1, a2, d, rfl⟩ := in_seq_fact s qb w1
      obtain ⟨b1, b2⟩ := (w2.rep s).shape (t := .tup xs) (by rw [dat]; exact d)
      rw [toD] at b1 b2
      exact ⟨_, op_notInT hu, toD t1, toDs xs, by rw [hK]; exact a1, by rw [hK]; exact b1, a2, b2, q.flat s rep_bl⟩
    · cases qb
theorem un_negP : UnP X c (unaryOp .USub) negP := fun G H t1 t v1 Q e s w1 q => by
  unfold negP at e
  split at e
  · cases w1; cases e
    exact ⟨_, un_neg, _, rfl, q.flat s rep_int⟩
  · cases e
end

def lenF : List PV → Option Arg
  | [.lst xs] => some (.t (.int xs.length))
  | [.tup xs] => some (.t (.int xs.length))
  | [.str x] => some (.t (.int x.length))
  | [.scr ns] => some (.t (.int ns.length))
  | _ => none
def listF : List PV → Option Arg
  | [.lst xs] => some (.ow (.lst xs))
  | [.tup xs] => some (.ow (.lst xs))
  | _ => none
def tupleF : List PV → Option Arg
  | [.lst xs] => some (.t (.tup xs))
  | [.tup xs] => some (.t (.tup xs))
  | _ => none
def intF : List PV → Option Arg
  | [.int i] => some (.t (.int i))
  | [.bl k] => some (.t (.int (if k then 1 else 0)))
  | [.str a] => if a.length ≤ 640 then (PySem.intText? a).map fun n => .t (.int n) else none
  | _ => none
def strF : List PV → Option Arg
  | [.int i] => if 0 ≤ i ∧ i < 10 ^ 100 then some (.t (.str (Str.ofString (toString i)))) else none
  | [.str a] => some (.t (.str a))
  | _ => none
def absF : List PV → Option Arg
  | [.int i] => some (.t (.int (if i < 0 then -i else i)))
  | _ => none
def maxF : List PV → Option Arg
  | [.int i, .int j] => some (.t (.int (if j > i then j else i)))
  | _ => none
def minF : List PV → Option Arg
  | [.int i, .int j] => some (.t (.int (if j < i then j else i)))
  | _ => none
def boolsP : List PV → Option (List Bool)
  | [] => some []
  | .bl b :: r => (boolsP r).map (b :: ·)
  | _ => none
def strsP : List PV → Option (List Str)
  | [] => some []
  | .str b :: r => (strsP r).map (b :: ·)
  | _ => none
def intsP : List PV → Option (List Int)
  | [] => some []
  | .int b :: r => (intsP r).map (b :: ·)
  | _ => none
def allF : List PV → Option Arg
  | [.lst xs] => (boolsP xs).map fun bs => .t (.bl (bs.all id))
  | _ => none
def anyF : List PV → Option Arg
  | [.lst xs] => (boolsP xs).map fun bs => .t (.bl (bs.any id))
  | _ => none
section
variable {X : Cx} {c : TC}
theorem bools_rep {G : Hp} : ∀ {ts : List PV} {vs : List V} {bs : List Bool}, RepL c G ts vs → boolsP ts = some bs → vs = bs.map V.bl
  | [], _, _, h, e => by cases h; cases e; rfl
  | .bl b :: ts, _, bs, ⟨v, r, e1, h, t⟩, e => by
    subst e1
    simp only [boolsP] at e
    cases q : boolsP ts with
    | none => rw [q] at e; cases e
    | some us =>
      rw [q] at e
      cases e
      simp only [Rep] at h
      rw [h, bools_rep t q]
      rfl
  | .non :: _, _, _, _, e => by cases e
  | .int _ :: _, _, _, _, e => by cases e
  | .str _ :: _, _, _, _, e => by cases e
  | .lst _ :: _, _, _, _, e => by cases e
  | .tup _ :: _, _, _, _, e => by cases e
  | .ins _ _ :: _, _, _, _, e => by cases e
  | .dct _ _ :: _, _, _, _, e => by cases e
  | .scr _ :: _, _, _, _, e => by cases e
  | .cls _ :: _, _, _, _, e => by cases e
  | .slc _ _ _ :: _, _, _, _, e => by cases e
theorem ints_rep {G : Hp} : ∀ {ts : List PV} {vs : List V} {bs : List Int}, RepL c G ts vs → intsP ts = some bs → vs = bs.map V.int
  | [], _, _, h, e => by cases h; cases e; rfl
  | .int b :: ts, _, bs, ⟨v, r, e1, h, t⟩, e => by
    subst e1
    simp only [intsP] at e
    cases q : intsP ts with
    | none => rw [q] at e; cases e
    | some us =>
      rw [q] at e
      cases e
      simp only [Rep] at h
      rw [h, ints_rep t q]
      rfl
  | .non :: _, _, _, _, e => by cases e
  | .bl _ :: _, _, _, _, e => by cases e
  | .str _ :: _, _, _, _, e => by cases e
  | .lst _ :: _, _, _, _, e => by cases e
  | .tup _ :: _, _, _, _, e => by cases e
  | .ins _ _ :: _, _, _, _, e => by cases e
  | .dct _ _ :: _, _, _, _, e => by cases e
  | .scr _ :: _, _, _, _, e => by cases e
  | .cls _ :: _, _, _, _, e => by cases e
  | .slc _ _ _ :: _, _, _, _, e => by cases e
theorem strs_rep {G : Hp} : ∀ {ts : List PV} {vs : List V} {bs : List Str}, RepL c G ts vs → strsP ts = some bs → vs = bs.map V.str ∧ ∀ y ∈ bs, StrG y
  | [], _, _, h, e => by cases h; cases e; exact ⟨rfl, fun _ z => nomatch z⟩
  | .str b :: ts, _, bs, ⟨v, r, e1, h, t⟩, e => by
    subst e1
    simp only [strsP] at e
    cases q : strsP ts with
    | none => rw [q] at e; cases e
    | some us =>
      rw [q] at e
      cases e
      simp only [Rep] at h
      obtain ⟨z1, z2⟩ := strs_rep t q
      refine ⟨by rw [h.1, z1]; rfl, fun y hy => ?_⟩
      rcases List.mem_cons.mp hy with w | w
      · rw [w]; exact h.2
      · exact z2 y w
  | .non :: _, _, _, _, e => by cases e
  | .bl _ :: _, _, _, _, e => by cases e
  | .int _ :: _, _, _, _, e => by cases e
  | .lst _ :: _, _, _, _, e => by cases e
  | .tup _ :: _, _, _, _, e => by cases e
  | .ins _ _ :: _, _, _, _, e => by cases e
  | .dct _ _ :: _, _, _, _, e => by cases e
  | .scr _ :: _, _, _, _, e => by cases e
  | .cls _ :: _, _, _, _, e => by cases e
  | .slc _ _ _ :: _, _, _, _, e => by cases e
theorem pair1 {G H : Hp} {a : PV} {vs : List V} (p : Paired (WRep c G H) [a] vs) : ∃ v, vs = [v] ∧ WRep c G H a v := by
  cases p with
  | cons h t => cases t; exact ⟨_, rfl, h⟩
theorem pair2 {G H : Hp} {a b : PV} {vs : List V} (p : Paired (WRep c G H) [a, b] vs) : ∃ v u, vs = [v, u] ∧ WRep c G H a v ∧ WRep c G H b u := by
  cases p with
  | cons h t =>
    obtain ⟨u, rfl, h2⟩ := pair1 t
    exact ⟨_, _, rfl, h, h2⟩
theorem bu_len (hK : X.K = c.K) : CallQ X c (.builtin "len") lenF := fun G H ts t vs Q e s p q => by
  unfold lenF at e
  split at e
  · obtain ⟨v, rfl, a, ws, rfl, hx, rr⟩ := pair1 p
    cases e
    exact ⟨_, call_len_seq, a, ws, rfl, .inl (.inl (.inl hx)), by rw [rr.length]; exact q.t.flat s rep_int⟩
  · obtain ⟨v, rfl, a, ws, rfl, hx, rr⟩ := pair1 p
    cases e
    exact ⟨_, call_len_seq, a, ws, rfl, .inr (by rw [hK]; exact s.sqT hx), by rw [rr.length]; exact q.t.flat s rep_int⟩
  · obtain ⟨v, rfl, rfl, g⟩ := pair1 p
    cases e
    exact ⟨_, call_len_str, _, rfl, g.1, q.t.flat s rep_int⟩
  · obtain ⟨v, rfl, a, rfl, hx⟩ := pair1 p
    cases e
    exact ⟨_, call_len_seq, a, _, rfl, .inl (by rw [hK]; exact s.sqL hx), by rw [List.length_map]; exact q.t.flat s rep_int⟩
  · cases e
theorem bu_list (hK : X.K = c.K) : CallQ X c (.type "list") listF := fun G H ts t vs Q e s p q => by
  unfold listF at e
  split at e
  · obtain ⟨v, rfl, a, ws, rfl, hx, rr⟩ := pair1 p
    cases e
    exact ⟨_, call_list_of, a, ws, rfl, .inl (.inl (.inl hx)), q.list rr⟩
  · obtain ⟨v, rfl, a, ws, rfl, hx, rr⟩ := pair1 p
    cases e
    exact ⟨_, call_list_of, a, ws, rfl, .inr (by rw [hK]; exact s.sqT hx), q.list rr⟩
  · cases e
theorem bu_tuple (hK : X.K = c.K) : CallQ X c (.type "tuple") tupleF := fun G H ts t vs Q e s p q => by
  unfold tupleF at e
  split at e
  · obtain ⟨v, rfl, a, ws, rfl, hx, rr⟩ := pair1 p
    cases e
    exact ⟨_, call_tuple_of, a, ws, rfl, .inl ⟨.inl (.inl hx), q.t.tup s rr⟩⟩
  · obtain ⟨v, rfl, a, ws, rfl, hx, rr⟩ := pair1 p
    cases e
    refine ⟨_, call_tuple_of, a, ws, rfl, .inr ⟨by rw [hK]; exact s.sqT hx, q.t.same s ?_⟩⟩
    simp only [Rep]
    exact ⟨a, ws, rfl, hx, rr⟩
  · cases e
theorem bu_int : CallQ X c (.type "int") intF := fun G H ts t vs Q e s p q => by
  unfold intF at e
  split at e
  · obtain ⟨v, rfl, rfl⟩ := pair1 p
    cases e
    exact ⟨_, call_int1, .inl ⟨_, rfl, q.t.flat s rep_int⟩⟩
  · obtain ⟨v, rfl, rfl⟩ := pair1 p
    cases e
    exact ⟨_, call_int1, .inr ⟨_, rfl, q.t.flat s rep_int⟩⟩
  · obtain ⟨v, rfl, rfl, g⟩ := pair1 p
    rename_i a
    by_cases l : a.length ≤ 640
    · rw [if_pos l] at e
      cases z : PySem.intText? a with
      | none => rw [z] at e; cases e
      | some n =>
        rw [z] at e
        cases e
        exact ⟨_, call_int_str, a, n, rfl, z, l, q.t.flat s rep_int⟩
    · rw [if_neg l] at e; cases e
  · cases e
theorem bu_abs : CallQ X c (.builtin "abs") absF := fun G H ts t vs Q e s p q => by
  unfold absF at e
  split at e
  · obtain ⟨v, rfl, rfl⟩ := pair1 p
    cases e
    exact ⟨_, call_abs, _, rfl, q.t.flat s rep_int⟩
  · cases e
theorem bu_max (hc : X.calm = true) : CallQ X c (.builtin "max") maxF := fun G H ts t vs Q e s p q => by
  unfold maxF at e
  split at e
  · obtain ⟨v, u, rfl, rfl, rfl⟩ := pair2 p
    cases e
    exact ⟨_, call_max2 hc, _, _, rfl, q.t.flat s rep_int⟩
  · cases e
theorem bu_min (hc : X.calm = true) : CallQ X c (.builtin "min") minF := fun G H ts t vs Q e s p q => by
  unfold minF at e
  split at e
  · obtain ⟨v, u, rfl, rfl, rfl⟩ := pair2 p
    cases e
    exact ⟨_, call_min2 hc, _, _, rfl, q.t.flat s rep_int⟩
  · cases e
theorem map_some {α β : Type} {f : α → β} {o : Option α} {b : β} (h : o.map f = some b) : ∃ a, o = some a ∧ b = f a := by
  cases o with
  | none => cases h
  | some a => exact ⟨a, rfl, by cases h; rfl⟩
theorem bu_all (hc : X.calm = true) : CallQ X c (.builtin "all") allF := fun G H ts t vs Q e s p q => by
  unfold allF at e
  split at e
  · obtain ⟨v, rfl, a, ws, rfl, hx, rr⟩ := pair1 p
    obtain ⟨bs, hb, rfl⟩ := map_some e
    exact ⟨_, cr_all hc, a, bs, rfl, by rw [← bools_rep rr hb]; exact .inl (.inl hx), q.t.flat s rep_bl⟩
  · cases e
theorem bu_any (hc : X.calm = true) : CallQ X c (.builtin "any") anyF := fun G H ts t vs Q e s p q => by
  unfold anyF at e
  split at e
  · obtain ⟨v, rfl, a, ws, rfl, hx, rr⟩ := pair1 p
    obtain ⟨bs, hb, rfl⟩ := map_some e
    exact ⟨_, cr_any hc, a, bs, rfl, by rw [← bools_rep rr hb]; exact .inl (.inl hx), q.t.flat s rep_bl⟩
  · cases e
end

@[simp] def isTy (T : String) : PV → Bool
  | .str _ => T == "str"
  | .lst _ => T == "list"
  | .dct _ _ => T == "dict"
  | _ => false
def splitM : PV → List PV → Option Arg
  | .str a, [.str b] => if (b.length == 0) = false ∧ a.length ≤ LIM then some (.ow (.lst ((Txt.split a b).map .str))) else none
  | _, _ => none
def joinM : PV → List PV → Option Arg
  | .str a, [.lst ys] => (strsP ys).bind fun zs => if (zs.map (·.length)).sum + zs.length * a.length ≤ LIM then some (.t (.str (Txt.join a zs))) else none
  | .str a, [.tup ys] => (strsP ys).bind fun zs => if (zs.map (·.length)).sum + zs.length * a.length ≤ LIM then some (.t (.str (Txt.join a zs))) else none
  | _, _ => none
@[simp] def rMet (T : String) (f : PV → List PV → Option Arg) (ea : EvE) (el : EvA) : EvR := fun env => (ea env).bind fun x e1 => match look e1 x with
  | some t0 => if isTy T t0 then (el e1).bind fun xs e => (match look e x, looks e xs with
    | some t, some ts => ofO (f t ts) e
    | _, _ => .bad) else .bad
  | none => .bad
section
variable {X : Cx} {c : TC} {r : Ref} {W : WX} {o a : Expr} {as : List Expr} {ea : EvE} {el : EvA} {apos cpos : Pos}
theorem mtAny {id : String} : MtR X id (fun v vs H Q => ∃ r, MtR X id r ∧ r v vs H Q) := fun pins s σ H x xs v us Q I r1 rr ⟨r, h, q⟩ => h pins s σ H x xs v us Q I r1 rr q
end

def ixP : PV → PV → Option PV
  | .lst xs, .int i => atI xs i
  | .tup xs, .int i => atI xs i
  | .str z, .int i => (atI z.cps.toList i).map fun n => .str ⟨#[n]⟩
  | _, _ => none
def cutP (xs : List PV) (lo hi : Option Int) : List PV := (xs.drop (HT.sIx xs.length 0 lo)).take (HT.sIx xs.length xs.length hi - HT.sIx xs.length 0 lo)
def slA : PV → Option Int → Option Int → Option Arg
  | .lst xs, lo, hi => some (.ow (.lst (cutP xs lo hi)))
  | .tup xs, lo, hi => some (.t (.tup (cutP xs lo hi)))
  | .str z, lo, hi => some (.t (.str (cutS z lo hi)))
  | .scr ns, lo, hi => some (.ow (.lst (cutP (ns.map PV.int) lo hi)))
  | _, _, _ => none
abbrev EvO := En → RE (Option Int)
def TOof (c : TC) (r : Ref) (W : WX) (ev : EvO) : TO := fun σ H Q => ∃ ads G env, RS c r ads G H σ env ∧
  (ev env).Sat (fun x env' => ∀ ads' G' H', RS c r ads' G' H' σ env' → Nxt ads G H ads' G' H' → Q x H') (XC c r W G σ)
@[simp] def oNo : EvO := fun env => .ok none env
@[simp] def oSo (ea : EvE) : EvO := fun env => (ea env).bind fun x e => match look e x with
  | some (.int i) => .ok (some i) e
  | _ => .bad
@[simp] def rSl (ea : EvE) (lo hi : EvO) : EvR := fun env => (ea env).bind fun x e1 => (lo e1).bind fun l e2 => (hi e2).bind fun h e3 => match look e3 x with
  | some t => ofO (slA t l h) e3
  | none => .bad
section
variable {X : Cx} {c : TC} {r : Ref} {W : WX} {a b : Expr} {ea eb : EvE} {lo hi : Option Expr} {ol oh : EvO} {pos p2 : Pos}
theorem PO.imp {e : Option Expr} {t t' : TO} (h : PO X e t) (i : ∀ σ H Q, t' σ H Q → t σ H Q) : PO X e t' := ⟨fun pins s σ H Q I q => h.run pins s σ H Q I (i σ H Q q)⟩
theorem to_no : PO X none (TOof c r W oNo) := PO.imp po_none fun σ H Q ⟨ads, G, env, R, h⟩ => h ads G H R (Nxt.refl _ _ _)
theorem to_so {e : Expr} (he : PE X e (TEof c r W ea)) : PO X (some e) (TOof c r W (oSo ea)) := PO.imp (po_some he) fun σ H Q ⟨ads, G, env, R, h⟩ => by
  refine ⟨ads, G, env, R, Sat_mono (Sat_bind.mp h) (fun x e1 h1 ads1 G1 H1 v1 R1 s1 p1 => ?_) fun _ _ z => z⟩
  cases q : look e1 x with
  | none => simp only [q] at h1; exact h1.elim
  | some t =>
    have w := look_rep R1 p1 q
    cases t with
    | int i =>
      simp only [q] at h1
      cases w
      exact ⟨i, rfl, h1 ads1 G1 H1 R1 s1⟩
    | _ => simp only [q] at h1; exact h1.elim
theorem RepL.atI {G : Hp} {ts : List PV} {vs : List V} {i : Int} {x : PV} (rr : RepL c G ts vs) (h : L2.atI ts i = some x) : ∃ v, L2.atI vs i = some v ∧ Rep c G x v := by
  unfold L2.atI at h ⊢
  rw [rr.length]
  cases q : ixN ts.length i with
  | none => rw [q] at h; cases h
  | some j => rw [q] at h; exact rr.get h
theorem atI_mem {α : Type} {l : List α} {i : Int} {x : α} (h : L2.atI l i = some x) : x ∈ l := by
  unfold L2.atI at h
  cases q : ixN l.length i with
  | none => rw [q] at h; cases h
  | some j => rw [q] at h; exact List.mem_of_getElem? h
def rAnyIx (X : Cx) : R2 := fun x y H Q => ∃ r, IxR X r ∧ r x y H Q
theorem ixAny : IxR X (rAnyIx X) := fun value slice pins s σ H x y v u Q I r1 r2 ⟨r, h, q⟩ hs => h value slice pins s σ H x y v u Q I r1 r2 q hs
theorem ix_ok (hK : X.K = c.K) {G H : Hp} {t1 t2 t : PV} {v1 v2 : V} {Q : VK} (e : ixP t1 t2 = some t) (s : Sub G H) (w1 : WRep c G H t1 v1) (w2 : WRep c G H t2 v2) (q : VOut c G H t Q) : rAnyIx X v1 v2 H Q := by
  unfold ixP at e
  split at e
  · obtain ⟨p, vs, rfl, hx, rr⟩ := w1
    cases w2
    obtain ⟨v, hv, rv⟩ := rr.atI e
    exact ⟨_, ix_list, p, vs, _, v, rfl, rfl, .inl (.inl hx), hv, q.same s rv⟩
  · obtain ⟨p, vs, rfl, hx, rr⟩ := w1
    cases w2
    obtain ⟨v, hv, rv⟩ := rr.atI e
    exact ⟨_, ix_tup, p, vs, _, v, rfl, rfl, by rw [hK]; exact s.sqT hx, hv, q.same s rv⟩
  · obtain ⟨rfl, g⟩ := w1
    cases w2
    obtain ⟨n, hn, rfl⟩ := map_some e
    refine ⟨_, ix_str, _, _, n, rfl, rfl, g.1, hn, q.flat s (rep_str ?_)⟩
    refine strG_sub (l := [n]) g ?_
    exact List.singleton_sublist.mpr (atI_mem hn)
  · cases e
theorem pt_ix (hK : X.K = c.K) (ha : PE X a (TEof c r W ea)) (hb : PE X b (TEof c r W eb)) (hs : PlainIx b) : PE X (.Subscript a b pos) (TEof c r W (eBin ixP ea eb)) := PE.imp (pe_ix ixAny ha hb hs) fun σ H Q ⟨ads, G, env, R, h⟩ => by
  refine ⟨ads, G, env, R, Sat_mono (Sat_bind.mp h) (fun x e1 h1 ads1 G1 H1 v1 R1 s1 p1 => ?_) fun _ _ z => z⟩
  refine ⟨ads1, G1, e1, R1, Sat_mono (Sat_bind.mp h1) (fun y e2 h2 ads2 G2 H2 v2 R2 s2 p2 => ?_) fun x e z => z.weak s1.sub⟩
  cases q1 : look e2 x with
  | none => rw [q1] at h2; exact h2.elim
  | some t1 =>
    rw [q1] at h2
    cases q2 : look e2 y with
    | none => rw [q2] at h2; exact h2.elim
    | some t2 =>
      rw [q2] at h2
      obtain ⟨t, ht, h2⟩ := Sat_ofO.mp (Sat_bind.mp h2)
      exact ix_ok hK ht R2.sub (look_rep R2 (p1.mono s2.sub) q1) (look_rep R2 p2 q2) fun v H' G' st p => h2 ads2 G' H' v (R2.next st) ((s1.trans s2).trans (Nxt.of st)) p
theorem ints_map {G : Hp} : ∀ {ns : List Int}, RepL c G (ns.map PV.int) (ns.map V.int)
  | [] => RepL.nil
  | n :: ns => RepL.cons (rep_int G) ints_map
theorem cut_rep {G : Hp} {ts : List PV} {vs : List V} (rr : RepL c G ts vs) (lo hi : Option Int) : RepL c G (cutP ts lo hi) (cutV vs lo hi) := by
  unfold cutP cutV
  rw [rr.length]
  exact (rr.drop _).take _
def rAnySl (X : Cx) : V → Option Int → Option Int → Hp → VK → Prop := fun x l h H Q => ∃ r, SlR X r ∧ r x l h H Q
theorem slAny : SlR X (rAnySl X) := fun pins s σ H x v vl vu lo hi sl Q I rx hs pl pu ⟨r, h, q⟩ => h pins s σ H x v vl vu lo hi sl Q I rx hs pl pu q
theorem sl_ok (hK : X.K = c.K) {G H : Hp} {t1 : PV} {t : Arg} {l h : Option Int} {v1 : V} {Q : VK} (e : slA t1 l h = some t) (s : Sub G H) (w1 : WRep c G H t1 v1) (q : QOut c G H t Q) : rAnySl X v1 l h H Q := by
  unfold slA at e
  split at e
  · cases e
    obtain ⟨p, vs, rfl, hx, rr⟩ := w1
    exact ⟨_, sl_list, p, vs, rfl, .inl (.inl hx), q.list (cut_rep rr _ _)⟩
  · cases e
    obtain ⟨p, vs, rfl, hx, rr⟩ := w1
    refine ⟨_, sl_tupA, p, vs, rfl, by rw [hK]; exact s.sqT hx, fun z => q.t.same s ?_, fun _ => q.t.tup s (cut_rep rr _ _)⟩
    have e2 := cut_rep rr l h
    have e3 : cutV vs l h = vs := by
      unfold cutV
      rw [z.1, z.2, List.drop_zero, Nat.sub_zero, List.take_length]
    rw [e3] at e2
    simp only [Rep]
    exact ⟨p, vs, rfl, hx, e2⟩
  · cases e
    obtain ⟨rfl, g⟩ := w1
    refine ⟨_, sl_str, _, rfl, g.1, q.t.flat s (rep_str ?_)⟩
    unfold cutS
    exact strG_sub g ((List.take_sublist _ _).trans (List.drop_sublist _ _))
  · cases e
    obtain ⟨p, rfl, hx⟩ := w1
    exact ⟨_, sl_list, p, _, rfl, by rw [hK]; exact s.sqL hx, q.list (cut_rep ints_map _ _)⟩
  · cases e
theorem tr_sl (hK : X.K = c.K) (ha : PE X a (TEof c r W ea)) (hl : PO X lo (TOof c r W ol)) (hh : PO X hi (TOof c r W oh)) : PE X (.Subscript a (.Slice lo hi none p2) pos) (TRof c r W (rSl ea ol oh)) := PE.imp (pe_slice slAny ha hl hh) fun σ H Q ⟨ads, G, env, R, h⟩ => by
  refine ⟨ads, G, env, R, Sat_mono (Sat_bind.mp h) (fun x e1 h1 ads1 G1 H1 v1 R1 s1 p1 => ?_) fun _ _ z => z⟩
  refine ⟨ads1, G1, e1, R1, Sat_mono (Sat_bind.mp h1) (fun l e2 h2 ads2 G2 H2 R2 s2 => ?_) fun x e z => z.weak s1.sub⟩
  refine ⟨ads2, G2, e2, R2, Sat_mono (Sat_bind.mp h2) (fun u e3 h3 ads3 G3 H3 R3 s3 => ?_) fun x e z => z.weak (s1.sub.trans s2.sub)⟩
  cases q1 : look e3 x with
  | none => rw [q1] at h3; exact h3.elim
  | some t1 =>
    rw [q1] at h3
    obtain ⟨t, ht, h4⟩ := Sat_ofO.mp h3
    exact sl_ok hK ht R3.sub (look_rep R3 (p1.mono (s2.sub.trans s3.sub)) q1) (QOut.res R3 ((s1.trans s2).trans s3) h4)
end
end TreeL
end
section
namespace TreeL
open PySem PySem.Spec PyProof.Rows L2

@[simp] def eFld (ks : List Nat) (f : Str) (ea : EvE) : EvE := fun env => (ea env).bind fun x e => match look e x with
  | some (.ins k fs) => if ks.contains k then (ofO (fs.lookup f) e).bind fun t e => .ok (.tr t) e else .bad
  | _ => .bad
def putFP (f : Str) (t : PV) : List (Str × PV) → List (Str × PV)
  | [] => [(f, t)]
  | (g, x) :: r => if g = f then (g, t) :: r else (g, x) :: putFP f t r
def sFldT (i k : Nat) (f : Str) (ea : EvE) : EvS := fun env => (ea env).so fun x e => match x with
  | .tr t => (match e[i]? with
    | some (some (.ow (.ins k' fs))) => if k' = k ∧ fs.length < 1000 then .nx (e.set i (some (.ow (.ins k (putFP f t fs))))) else .bad
    | _ => .bad)
  | .sl _ => .bad
section
variable {X : Cx} {c : TC} {r : Ref} {W : WX} {o e : Expr} {ea : EvE} {f : Str} {ks : List Nat} {i k : Nat} {pos pos' p : Pos}
theorem RepF.put {G : Hp} {f : Str} {t : PV} {v : V} (h : Rep c G t v) : ∀ {fs : List (Str × PV)} {gs : List (Str × V)}, RepF c G fs gs → RepF c G (putFP f t fs) (putF f v gs)
  | [], _, e => by cases e; exact ⟨v, [], rfl, h, rfl⟩
  | (g, x) :: fs, _, ⟨u, r, e, a, b⟩ => by
    subst e
    unfold putFP putF
    by_cases q : g = f
    · rw [if_pos q, if_pos q]; exact ⟨v, r, rfl, h, b⟩
    · rw [if_neg q, if_neg q]; exact ⟨u, _, rfl, a, RepF.put h b⟩
theorem ts_fld (hc : Cls X.K (c.C k)) (hn : NoAttr X.K (c.C k) f) (ho : PE X o (tVar i)) (he : PE X e (TEof c r W ea)) (hs : swapsWith e (some (.Attribute o f pos')) pos.line X.env = pure false := by rfl) : PS X (.Assign [.Attribute o f pos'] e pos) (TSof c r W (sFldT i k f ea)) :=
  PS.imp (ps_fld ho he hs) fun D σ H ⟨ads, G, env, R, h⟩ => by
    refine ⟨ads, G, env, R, Sat_mono (RE.so_Sat.mp h) (fun x e1 h1 ads1 G1 H1 v1 R1 s1 p1 => ?_) fun x e z => XC.of z⟩
    cases x with
    | sl i => exact h1.elim
    | tr t =>
      have sl := R1.slot i
      cases q : e1[i]? with
      | none => simp only [q] at h1; exact h1.elim
      | some o =>
        cases o with
        | none => simp only [q] at h1; exact h1.elim
        | some a =>
          cases a with
          | t _ => simp only [q] at h1; exact h1.elim
          | ow o =>
            cases o with
            | ins k' fs =>
              simp only [q] at h1
              by_cases m : k' = k ∧ fs.length < 1000
              · rw [if_pos m] at h1
                obtain ⟨rfl, hl⟩ := m
                rw [q] at sl
                cases w : σ[i]?.join with
                | none => rw [w] at sl; exact (show False from sl).elim
                | some v =>
                  rw [w] at sl
                  obtain ⟨p, rfl, ad, dx, gs, hH, rf⟩ := sl
                  have hv : σ[i]? = some (some (.ref p)) := Option.join_eq_some_iff.mp w
                  refine ⟨.ref p, hv, p, c.C k', dx, gs, rfl, hH, hc, hn, by rw [rf.length]; exact hl, ?_⟩
                  exact h1 ads1 G1 _ σ (R1.write hv (by rw [ad]; exact List.mem_singleton.mpr rfl) hH ⟨ad, dx, _, upd_same, rf.put p1⟩) s1.sub
              · rw [if_neg m] at h1; exact h1.elim
            | _ => simp only [q] at h1; exact h1.elim
end

def isTyO (T : String) : OS → Bool
  | .lst _ => T == "list"
  | .dct _ _ => T == "dict"
  | _ => false
def MutP (X : Cx) (c : TC) (id : String) (f : OS → List PV → Option (PV × OS)) : Prop :=
  ∀ G H p ad o ts vs t o' Q, f o ts = some (t, o') → Sub G H → OwRep c G H p ad o → RepL c G ts vs → (∀ a ho ho' v, a ∈ ad → H a = some ho → OwRep c G (upd H a ho') p ad o' → Rep c G t v → Q v (upd H a ho')) → ∃ r, MtR X id r ∧ r (.ref p) vs H Q
def eMut (T : String) (f : OS → List PV → Option (PV × OS)) (i : Nat) (el : EvA) : EvE := fun env => match env[i]? with
  | some (some (.ow o)) => if isTyO T o then (el env).bind fun xs e => (match e[i]?, trees xs with
    | some (some (.ow o)), some ts => (ofO (f o ts) e).bind fun q e => .ok (.tr q.1) (e.set i (some (.ow q.2)))
    | _, _ => .bad) else .bad
  | _ => .bad
section
variable {X : Cx} {c : TC} {r : Ref} {W : WX} {o a : Expr} {as : List Expr} {el : EvA} {i : Nat} {apos cpos : Pos}
theorem isTyO_rep {G H : Hp} {p : Addr} {ad : List Addr} {o : OS} {T : String} (w : OwRep c G H p ad o) (h : isTyO T o = true) : tyV c.K T (.ref p) H := by
  cases o with
  | lst xs =>
    obtain ⟨_, vs, hx, _⟩ := w
    exact .inl ⟨beq_iff_eq.mp h, vs, .inl (.inl hx)⟩
  | dct k kvs =>
    obtain ⟨_, hx⟩ := w
    refine .inr (.inr (.inl ⟨beq_iff_eq.mp h, ?_⟩))
    rcases hx with ⟨_, ks, hx, _⟩ | ⟨_, ks, hx, _⟩
    · exact .inl ⟨ks, hx⟩
    · exact .inr ⟨ks, hx⟩
  | _ => cases h
theorem Nxt.wr {ads : Nat → List Addr} {G H : Hp} {a : Addr} {ho ho' : HO} {i : Nat} (h : a ∈ ads i) (hH : H a = some ho) : Nxt ads G H ads G (upd H a ho') where
  sub := Sub.refl _
  hold := fun b o e n => by
    have ne : b ≠ a := fun z => n i (by rw [z]; exact h)
    exact ⟨by rw [upd_ne ne]; exact e, n, fun _ => id⟩
  there := fun b e => by
    by_cases z : b = a
    · rw [z, upd_same] at e; cases e
    · rw [upd_ne z] at e; exact e
theorem slot_own {ads : Nat → List Addr} {G H : Hp} {σ : L2.St} {env : En} {o : OS} (R : RS c r ads G H σ env) (q : env[i]? = some (some (.ow o))) : ∃ p, σ[i]? = some (some (.ref p)) ∧ OwRep c G H p (ads i) o := by
  have sl := R.slot i
  rw [q] at sl
  cases w : σ[i]?.join with
  | none => rw [w] at sl; exact (show False from sl).elim
  | some v =>
    rw [w] at sl
    obtain ⟨p, rfl, ow⟩ := sl
    exact ⟨p, Option.join_eq_some_iff.mp w, ow⟩
theorem mut_core {id : String} {f : OS → List PV → Option (PV × OS)} (ho : MutP X c id f) {ads0 ads : Nat → List Addr} {G0 H0 G H : Hp} {σ : L2.St} {env : En} {p : Addr} {xs : List Vl} {vs : List V} {Q : VK} (R : RS c r ads G H σ env) (s0 : Nxt ads0 G0 H0 ads G H) (hp : σ[i]? = some (some (.ref p))) (pv : VReps c σ G xs vs)
    (h : (match env[i]?, trees xs with
    | some (some (.ow o)), some ts => (ofO (f o ts) env).bind fun q e => RE.ok (Vl.tr q.1) (e.set i (some (.ow q.2)))
    | _, _ => .bad).Sat (fun x env' => ∀ ads' G' H' v, RS c r ads' G' H' σ env' → Nxt ads0 G0 H0 ads' G' H' → VRep c σ G' x v → Q v H') (XC c r W G0 σ)) : ∃ r, MtR X id r ∧ r (.ref p) vs H Q := by
  cases q : env[i]? with
  | none => simp only [q] at h; exact h.elim
  | some o =>
    cases o with
    | none => simp only [q] at h; exact h.elim
    | some a =>
      cases a with
      | t _ => simp only [q] at h; exact h.elim
      | ow o =>
        cases q2 : trees xs with
        | none => simp only [q, q2] at h; exact h.elim
        | some ts =>
          simp only [q, q2] at h
          obtain ⟨⟨t, o'⟩, ht, h2⟩ := Sat_ofO.mp (Sat_bind.mp h)
          obtain ⟨p', e1, ow⟩ := slot_own R q
          rw [hp] at e1
          cases e1
          exact ho G H p (ads i) o ts vs t o' Q ht R.sub ow (trees_rep pv q2) fun a hh hh' v ha hH ow' rv => h2 ads G _ v (R.write hp ha hH ow') (s0.trans (Nxt.wr ha hH)) rv
theorem pt_mut {T id : String} {name : Str} {f : OS → List PV → Option (PV × OS)} (hK : X.K = c.K) (pa : PlainAttrs T) (slot : Slot T name id) (hty : typeOf (.builtin id) = pure (.type "method_descriptor")) (ho : MutP X c id f) (he : PE X o (tVar i)) (ha : PA X (a :: as) (TAof c r W el))
    (hbase : attributeBase o name X.env (eval o X.env) = eval o X.env := by rfl)
    (hfew : ((backTo cpos (starEach (a :: as) X.env)).all (fun x => !x.1) && (backToKw cpos (keywordEach [] X.env)).all (fun x => x.1.isSome) && decide ((a :: as).length + ([] : List Keyword).length + (if ([] : List Keyword).isEmpty then 0 else 1) < 30)) = true := by rfl)
    (hline : (apos.endLine == cpos.line) = true := by rfl) (hs : starEach (a :: as) X.env = (false, eval a X.env) :: starEach as X.env := by rfl) (hplain : (backTo cpos (starEach as X.env)).any (·.1) = false := by rfl) :
    PE X (.Call (.Attribute o name apos) (a :: as) [] cpos) (TEof c r W (eMut T f i el)) :=
  PE.imp (pe_bm pa slot hty mtAny he ha hbase hfew hline hs hplain) fun σ H Q ⟨ads, G, env, R, h⟩ => by
    simp only [eMut] at h
    cases q : env[i]? with
    | none => simp only [q] at h; exact h.elim
    | some o =>
      cases o with
      | none => simp only [q] at h; exact h.elim
      | some a =>
        cases a with
        | t _ => simp only [q] at h; exact h.elim
        | ow o =>
          simp only [q] at h
          by_cases ty : isTyO T o = true
          rotate_left
          · rw [if_neg ty] at h; exact h.elim
          rw [if_pos ty] at h
          obtain ⟨p, e1, ow⟩ := slot_own R q
          refine ⟨.ref p, e1, by rw [hK]; exact isTyO_rep ow ty, ads, G, env, R, Sat_mono (Sat_bind.mp h) (fun xs e2 h2 ads2 G2 H2 vs R2 s2 p2 => mut_core ho R2 s2 e1 p2 h2) fun _ _ z => z⟩
def appendO : OS → List PV → Option (PV × OS)
  | .lst xs, [t] => if xs.length < LIM then some (.non, .lst (xs ++ [t])) else none
  | _, _ => none
def popO : OS → List PV → Option (PV × OS)
  | .lst xs, [] => (xs[xs.length - 1]?).map fun t => (t, .lst xs.dropLast)
  | .lst xs, [.int i] => if -(2 ^ 63) ≤ i ∧ i < 2 ^ 63 then (seqIndex? i xs.length).bind fun k => (xs[k]?).map fun t => (t, .lst (xs.eraseIdx k)) else none
  | _, _ => none
theorem RepL.dropLast {G : Hp} {ts : List PV} {vs : List V} (h : RepL c G ts vs) : RepL c G ts.dropLast vs.dropLast := by
  rw [List.dropLast_eq_take, List.dropLast_eq_take, h.length]
  exact h.take _
theorem mu_append : MutP X c "list.append" appendO := fun G H p ad o ts vs t o' Q e s w rr h => by
  unfold appendO at e
  split at e
  · obtain ⟨hl, e⟩ := ite_some e
    cases e
    obtain ⟨ha, ws, hH, rw⟩ := w
    obtain ⟨v, u, rfl, rv, ru⟩ := rr
    cases ru
    exact ⟨_, mt_append, p, ws, v, rfl, rfl, hH, by rw [rw.length]; exact Nat.lt_of_lt_of_le hl (lim_line (Nat.le_refl _)), h p _ _ _ (by rw [ha]; exact List.mem_singleton.mpr rfl) hH ⟨ha, _, upd_same, rw.append (RepL.one rv)⟩ (rep_non G)⟩
  · cases e
theorem mu_pop : MutP X c "list.pop" popO := fun G H p ad o ts vs t o' Q e s w rr h => by
  unfold popO at e
  split at e
  · obtain ⟨x, hx, e⟩ := map_some e
    cases e
    obtain ⟨ha, ws, hH, rw⟩ := w
    cases rr
    obtain ⟨u, hu, ru⟩ := rw.get hx
    refine ⟨_, mt_pop, p, ws, u, rfl, rfl, hH, by rw [rw.length]; exact hu, h p _ _ _ (by rw [ha]; exact List.mem_singleton.mpr rfl) hH ⟨ha, _, upd_same, rw.dropLast⟩ ru⟩
  · rename_i xs i
    by_cases hl : -(2 ^ 63) ≤ i ∧ i < 2 ^ 63
    · rw [if_pos hl] at e
      cases q : seqIndex? i xs.length with
      | none => rw [q] at e; cases e
      | some k =>
        rw [q] at e
        obtain ⟨x, hx, e⟩ := map_some e
        cases e
        obtain ⟨ha, ws, hH, rw⟩ := w
        obtain ⟨v, u, rfl, rv, ru⟩ := rr
        cases ru
        simp only [Rep] at rv
        subst rv
        obtain ⟨u, hu, ru⟩ := rw.get hx
        exact ⟨_, mt_popAt, p, ws, i, k, u, rfl, rfl, hH, hl.1, hl.2, by rw [rw.length]; exact q, hu, h p _ _ _ (by rw [ha]; exact List.mem_singleton.mpr rfl) hH ⟨ha, _, upd_same, rw.eraseIdx k⟩ ru⟩
    · rw [if_neg hl] at e; cases e
  · cases e
end

def signs (x : Str) : List PV := x.cps.toList.map fun n => PV.str ⟨#[n]⟩
@[simp] def iAny (pn : List Nat) (ea : EvE) : EvI := fun env => (ea env).bind fun x e => match x with
  | .tr (.str z) => .ok ⟨signs z, .tr .non⟩ e
  | .tr (.lst ts) => .ok ⟨ts, .tr .non⟩ e
  | .tr (.tup ts) => .ok ⟨ts, .tr .non⟩ e
  | .sl j => if pn.contains j then (match e[j]? with
    | some (some (.ow (.lst ts))) => .ok ⟨ts, .sl j⟩ e
    | _ => .bad) else .bad
  | _ => .bad
def rangeL (lo : Int) (n : Nat) : List PV := (List.range n).map fun (k : Nat) => PV.int (lo + (k : Int))
@[simp] def iRngA (el : EvA) : EvI := fun env => (el env).bind fun xs e => match looks e xs with
  | some [.int j] => if -1000000000 ≤ j ∧ j ≤ 1000000000 then .ok ⟨rangeL 0 j.toNat, .tr .non⟩ e else .bad
  | _ => .bad
@[simp] def iRngB (el : EvA) : EvI := fun env => (el env).bind fun xs e => match looks e xs with
  | some [.int i, .int j] => if -1000000000 ≤ i ∧ i ≤ 1000000000 ∧ -1000000000 ≤ j ∧ j ≤ 1000000000 then .ok ⟨rangeL i (j - i).toNat, .tr .non⟩ e else .bad
  | _ => .bad
def enumL : Nat → List PV → List PV
  | _, [] => []
  | n, t :: ts => .tup [.int n, t] :: enumL (n + 1) ts
@[simp] def seqT : PV → Option (List PV)
  | .lst ts => some ts
  | .tup ts => some ts
  | _ => none
section
variable {X : Cx} {c : TC} {r : Ref} {W : WX} {tg e a b : Expr} {ea : EvE} {el : EvA} {pos p : Pos}
theorem itok_str {G : Hp} {x : Vl} {z : Str} (g : StrG z) : ItOk c r G x (signs z) (Its z) := fun i ads G' H σ env R s1 _ => by
  refine ⟨fun t ht => ?_, fun hl => ?_⟩
  · unfold signs at ht
    rw [List.getElem?_map] at ht
    obtain ⟨n, hn, rfl⟩ := map_some ht
    rw [Array.getElem?_toList] at hn
    refine ⟨(Array.getElem?_eq_some_iff.mp hn).1, fun v H' ⟨e, m, hm, ev⟩ => ?_⟩
    subst e; subst ev
    rw [hn] at hm
    cases hm
    exact ⟨G', Step.refl R.sub, rep_str (strG_sub (l := [n]) g (List.singleton_sublist.mpr (by rw [← Array.getElem?_toList] at hn; exact List.mem_of_getElem? hn))) G'⟩
  · have h : z.cps.size ≤ i := by simpa [signs] using hl
    exact h
theorem ti_any {pn : List Nat} (hp : r.pins.map Prod.fst = pn) (hK : X.K = c.K) (ha : PE X e (TEof c r W ea)) : PI X tg e (TIof c r W (iAny pn ea)) := PI.imp (PI.or (pi_str ha) (ti_seq (pn := pn) hp hK ha)) fun σ H R ⟨ads, G, env, R0, h⟩ => by
  have h' := Sat_bind.mp h
  cases q : ea env with
  | bad => rw [q] at h'; exact h'.elim
  | exc x e1 =>
    rw [q] at h'
    exact .inl ⟨ads, G, env, R0, by rw [q]; exact h'⟩
  | ok x e1 =>
    rw [q] at h'
    have other : (∀ z, x ≠ .tr (.str z)) → TIof c r W (iSeq pn ea) σ H R := fun ne => by
      refine ⟨ads, G, env, R0, ?_⟩
      unfold iSeq
      rw [q]
      cases x with
      | sl j => exact h'
      | tr t =>
        cases t with
        | str z => exact absurd rfl (ne z)
        | lst _ => exact h'
        | tup _ => exact h'
        | non => exact h'
        | bl _ => exact h'
        | int _ => exact h'
        | ins _ _ => exact h'
        | dct _ _ => exact h'
        | scr _ => exact h'
        | cls _ => exact h'
        | slc _ _ => exact h'
    cases x with
    | sl j => exact .inr (other fun _ z => nomatch z)
    | tr t =>
      cases t with
      | str z =>
        refine .inl ⟨ads, G, env, R0, ?_⟩
        rw [q]
        intro ads1 G1 H1 v1 R1 s1 p1
        simp only [VRep, Rep] at p1
        obtain ⟨rfl, g⟩ := p1
        exact ⟨z, rfl, h' ads1 G1 H1 _ R1 s1 (itok_str g)⟩
      | _ => exact .inr (other fun _ z => nomatch z)
theorem ti_range1 (hg : Gl X "range") (hm : X.mg "range" = none) (ha : PA X [a] (TAof c r W el)) (hs : starEach [a] X.env = [(false, eval a X.env)] := by rfl) : PI X tg (.Call (.Name "range" p) [a] [] pos) (TIof c r W (iRngA el)) := by
  refine PI.imp (pi_range1 hg hm ha hs) fun σ H R ⟨ads, G, env, R0, h⟩ => ?_
  refine ⟨ads, G, env, R0, Sat_mono (Sat_bind.mp h) (fun xs e1 h1 ads1 G1 H1 vs R1 s1 p1 => ?_) fun _ _ z => z⟩
  cases q : looks e1 xs with
  | none => simp only [q] at h1; exact h1.elim
  | some ts =>
    have w := looks_rep R1 p1 q
    simp only [q] at h1
    split at h1
    · rename_i j e
      cases e
      obtain ⟨v, rfl, rfl⟩ := pair1 w
      by_cases hj : -1000000000 ≤ j ∧ j ≤ 1000000000
      · rw [if_pos hj] at h1
        exact ⟨j, rfl, by omega, by omega, h1 ads1 G1 H1 _ R1 s1 (itok_range (lo := 0))⟩
      · rw [if_neg hj] at h1; exact h1.elim
    · exact h1.elim
end

section
variable {X : Cx} {c : TC} {r : Ref} {W : WX} {elt tg iter : Expr} {ifs : List Expr} {scope : Scope} {own : List (Str × Nat)} {pos : Pos} {ev : EvI} {us : List Nat} {g : Tg} {et : EvT} {ea : EvE}
theorem pf_lc (hc : X.calm = true) (hN : X.N.Nodup) (hp : ∀ j ∈ own.map (·.2), (r.pins.map Prod.fst).contains j = false) (hu : ∀ j ∈ us, j ∈ own.map (·.2)) (hi : PI X tg iter (TIof c r W ev)) (ok : BlkOk X.N X.env.scope scope own)
    (hg : ∀ (s : Shared) (H : Hp) (C : Addr) (cl : List (Str × Addr)) (fp : List Addr), PG (X.blk s H scope (compEnvC scope cl C X.env) fp) tg (TGof c r us g)) (ht : ∀ (s : Shared) (H : Hp) (C : Addr) (cl : List (Str × Addr)) (fp : List Addr), PTs (X.blk s H scope (compEnvC scope cl C X.env) fp) ifs (TTof c r W0 et))
    (he : ∀ (s : Shared) (H : Hp) (C : Addr) (cl : List (Str × Addr)) (fp : List Addr), PE (X.blk s H scope (compEnvC scope cl C X.env) fp) elt (TEof c r W0 ea)) (hs : ∀ x, foldedSetIterable iter X.env x = pure x := by intro _; rfl) :
    PE X (.ListComp elt [⟨tg, iter, ifs, 0⟩] scope pos) (TFof c r W (fComp ev g et ea (own.map (·.2)))) := PE.imp (pe_lc hc hN hi ok hg ht he hs) fun _ _ _ h => lc_imp hp hu h
theorem set_imp {ea : EvE} {i : Nat} (hp : (r.pins.map Prod.fst).contains i = false) {D : Ends} {σ : L2.St} {H : Hp} (h : TSof c r W (sAsg ea (gNm i)) D σ H) : tAsg (TEof c r W ea) (gName i) D σ H := by
  obtain ⟨ads, G, env, R, h⟩ := h
  refine ⟨ads, G, env, R, Sat_mono (RE.so_Sat.mp h) (fun x e1 h1 ads1 G1 H1 v1 R1 s1 p1 => ?_) fun x e z => XC.of z⟩
  cases x with
  | sl i => exact h1.elim
  | tr t => exact h1 _ G1 H1 _ (R1.set p1 hp) s1.sub
theorem of_imp {ef : EvF} {σ : L2.St} {H : Hp} {Q : VK} (h : TEof c r W (eOf ef) σ H Q) : TFof c r W ef σ H Q := by
  obtain ⟨ads, G, env, R, h⟩ := h
  refine ⟨ads, G, env, R, Sat_mono (Sat_bind.mp h) (fun o e1 h1 ads1 G1 H1 p1 ad R1 s1 ow nw => ?_) fun _ _ z => z⟩
  cases q : o.tree with
  | none => simp only [q] at h1; exact h1.elim
  | some t =>
    simp only [q] at h1
    obtain ⟨ho, hp⟩ := ow.one q
    have n1 := nw p1 (by rw [ow.ad q]; exact List.mem_singleton.mpr rfl)
    obtain ⟨s2, R2⟩ := R1.know hp n1.1
    exact h1 ads1 _ H1 (.ref p1) R2 (s1.fresh n1.1.1 n1.2) (ow.known q hp s2)
theorem ts_setLc {i : Nat} {y : Str} {py spos : Pos} (hc : X.calm = true) (hN : X.N.Nodup) (hy : X.N[i]? = some y) (hyl : X.env.scope.names.lookup y = some .local) (hpi : (r.pins.map Prod.fst).contains i = false)
    (hsw : swapsWith (.ListComp elt [⟨tg, iter, ifs, 0⟩] scope pos) (some (.Name y py)) spos.line X.env = pure true) (hp : ∀ j ∈ own.map (·.2), (r.pins.map Prod.fst).contains j = false) (hu : ∀ j ∈ us, j ∈ own.map (·.2)) (hi : PI X tg iter (TIof c r W ev)) (ok : BlkOk X.N X.env.scope scope own)
    (hg : ∀ (s : Shared) (H : Hp) (C : Addr) (cl : List (Str × Addr)) (fp : List Addr), PG (X.blk s H scope (compEnvC scope cl C X.env) fp) tg (TGof c r us g)) (ht : ∀ (s : Shared) (H : Hp) (C : Addr) (cl : List (Str × Addr)) (fp : List Addr), PTs (X.blk s H scope (compEnvC scope cl C X.env) fp) ifs (TTof c r W0 et))
    (he : ∀ (s : Shared) (H : Hp) (C : Addr) (cl : List (Str × Addr)) (fp : List Addr), PE (X.blk s H scope (compEnvC scope cl C X.env) fp) elt (TEof c r W0 ea)) (hs : ∀ x, foldedSetIterable iter X.env x = pure x := by intro _; rfl) :
    PS X (.Assign [.Name y py] (.ListComp elt [⟨tg, iter, ifs, 0⟩] scope pos) spos) (TSof c r W (sAsg (eOf (fComp ev g et ea (own.map (·.2)))) (gNm i))) := PS.imp (ps_setLc hc hN hy hyl hsw hi ok hg ht he hs) fun D σ H h =>
  lc_imp hp hu (of_imp (set_imp hpi h))
end

@[simp] def eChn (f f' : PV → PV → Option PV) (ea eb ec : EvE) : EvE := fun env => (ea env).bind fun a e1 => (eb e1).bind fun b e2 =>
  match look e2 a, look e2 b with
  | some x, some y => (match f x y with
    | some (.bl true) => (ec e2).bind fun z e3 => (match look e3 b, look e3 z with
      | some y, some z => (ofO (f' y z) e3).bind fun t e => .ok (.tr t) e
      | _, _ => .bad)
    | some (.bl false) => .ok (.tr (.bl false)) e2
    | _ => .bad)
  | _, _ => .bad
section
variable {X : Cx} {c : TC} {r : Ref} {W : WX} {a b d : Expr} {ea eb ec : EvE} {pos : Pos}
theorem chn_imp {op op' : CmpOp} {f f' : PV → PV → Option PV} (ho : OpP X c (compareOp op) f) (ho' : OpP X c (compareOp op') f') {σ : L2.St} {H : Hp} {Q : VK} (h : TEof c r W (eChn f f' ea eb ec) σ H Q) :
    tChain (rAny2 X (compareOp op)) (rAny2 X (compareOp op')) (TEof c r W ea) (TEof c r W eb) (TEof c r W ec) σ H Q := by
  obtain ⟨ads, G, env, R, h⟩ := h
  refine ⟨ads, G, env, R, Sat_mono (Sat_bind.mp h) (fun x e1 h1 ads1 G1 H1 v1 R1 s1 p1 => ?_) fun _ _ z => z⟩
  refine ⟨ads1, G1, e1, R1, Sat_mono (Sat_bind.mp h1) (fun y e2 h2 ads2 G2 H2 v2 R2 s2 p2 => ?_) fun x e z => z.weak s1.sub⟩
  cases q1 : look e2 x with
  | none => simp only [q1] at h2; exact h2.elim
  | some t1 =>
    cases q2 : look e2 y with
    | none => simp only [q1, q2] at h2; exact h2.elim
    | some t2 =>
      simp only [q1, q2] at h2
      cases q3 : f t1 t2 with
      | none => simp only [q3] at h2; exact h2.elim
      | some t =>
        cases t with
        | bl k =>
          refine ho G2 H2 t1 t2 (.bl k) v1 v2 _ q3 R2.sub (look_rep R2 (p1.mono s2.sub) q1) (look_rep R2 p2 q2) fun v H' G' st p => ?_
          simp only [Rep] at p
          subst p
          refine ⟨k, rfl, ?_⟩
          have R3 := R2.next st
          cases k with
          | false =>
            simp only [q3] at h2
            exact iteF (h2 ads2 G' H' (.bl false) R3 ((s1.trans s2).trans (Nxt.of st)) (rep_bl (c := c) G'))
          | true =>
            simp only [q3] at h2
            refine iteT ⟨ads2, G', e2, R3, Sat_mono (Sat_bind.mp h2) (fun z e3 h3 ads3 G3 H3 v3 R4 s3 p3 => ?_) fun x e z => z.weak (s1.sub.trans (s2.sub.trans st.sub))⟩
            cases q4 : look e3 y with
            | none => simp only [q4] at h3; exact h3.elim
            | some t2' =>
              cases q5 : look e3 z with
              | none => simp only [q4, q5] at h3; exact h3.elim
              | some t3 =>
                simp only [q4, q5] at h3
                obtain ⟨t, ht, h4⟩ := Sat_ofO.mp (Sat_bind.mp h3)
                exact ho' G3 H3 t2' t3 t v2 v3 Q ht R4.sub (look_rep R4 (p2.mono (st.sub.trans s3.sub)) q4) (look_rep R4 p3 q5) fun v H' G' st' p => h4 ads3 G' H' v (R4.next st') ((((s1.trans s2).trans (Nxt.of st)).trans s3).trans (Nxt.of st')) p
        | _ => simp only [q3] at h2; exact h2.elim
theorem pt_chain {op op' : CmpOp} {f f' : PV → PV → Option PV} (ho : OpP X c (compareOp op) f) (ho' : OpP X c (compareOp op') f') (ha : PE X a (TEof c r W ea)) (hb : PE X b (TEof c r W eb)) (hd : PE X d (TEof c r W ec)) (hm : lastMarks [op, op'] [b, d] = false := by with_unfolding_all rfl) :
    PE X (.Compare a [op, op'] [b, d] pos) (TEof c r W (eChn f f' ea eb ec)) := PE.imp (pe_chain opAny opAny ha hb hd hm) fun _ _ _ h => chn_imp ho ho' h
@[simp] def tOfE (ea : EvE) : EvT := fun env => (ea env).bind fun x e => match look e x with
  | some (.bl k) => .ok k e
  | _ => .bad
theorem tt_chain {op op' : CmpOp} {f f' : PV → PV → Option PV} (ho : OpP X c (compareOp op) f) (ho' : OpP X c (compareOp op') f') (ha : PE X a (TEof c r W ea)) (hb : PE X b (TEof c r W eb)) (hd : PE X d (TEof c r W ec)) (hm : lastMarks [op, op'] [b, d] = false := by with_unfolding_all rfl) :
    PT X (.Compare a [op, op'] [b, d] pos) (TTof c r W (tOfE (eChn f f' ea eb ec))) := PT.imp (L2.pt_chain opAny opAny ha hb hd hm) fun σ H Q ⟨ads, G, env, R, h⟩ => by
  refine chn_imp ho ho' ⟨ads, G, env, R, Sat_mono (Sat_bind.mp h) (fun x e1 h1 ads1 G1 H1 v1 R1 s1 p1 => ?_) fun _ _ z => z⟩
  cases q : look e1 x with
  | none => simp only [q] at h1; exact h1.elim
  | some t =>
    have w := look_rep R1 p1 q
    cases t with
    | bl k =>
      simp only [q] at h1
      cases w
      exact ⟨k, rfl, h1 ads1 G1 H1 R1 s1⟩
    | _ => simp only [q] at h1; exact h1.elim
end
end TreeL
end
section
namespace TreeL
open PySem PySem.Spec PyProof.Rows L2

abbrev EvB := En → RE (List Arg)
def ResAd (c : TC) (r : Ref) (ads' : Nat → List Addr) (G' H H' : Hp) (ad : List Addr) : Arg → V → Prop
  | .t t, v => ad = [] ∧ Rep c G' t v
  | .ow o, v => ∃ p, v = .ref p ∧ OwRep c G' H' p ad o ∧ ∀ a ∈ ad, New r ads' G' a ∧ H a = none
def NewL (c : TC) (r : Ref) (ads' : Nat → List Addr) (G' H H' : Hp) : List (List Addr) → List Arg → List V → Prop
  | [], [], [] => True
  | ad :: adl, a :: as, v :: vs => ResAd c r ads' G' H H' ad a v ∧ (∀ x ∈ ad, x ∉ adl.flatten) ∧ NewL c r ads' G' H H' adl as vs
  | _, _, _ => False
def TBof (c : TC) (r : Ref) (W : WX) (ev : EvB) : TA := fun σ H Q => ∃ ads G env, RS c r ads G H σ env ∧
  (ev env).Sat (fun as env' => ∀ ads' G' H' adl vs, RS c r ads' G' H' σ env' → Nxt ads G H ads' G' H' → NewL c r ads' G' H H' adl as vs → Q vs H') (XC c r W G σ)
@[simp] def bNil : EvB := fun env => .ok [] env
@[simp] def bCons (er : EvR) (eb : EvB) : EvB := fun env => (er env).bind fun a e1 => (eb e1).bind fun as e2 => .ok (a :: as) e2
@[simp] def rTree (ea : EvE) : EvR := fun env => (ea env).bind fun x e => match x with
  | .tr t => .ok (.t t) e
  | .sl _ => .bad
@[simp] def rOwn (ef : EvF) : EvR := fun env => (ef env).bind fun o e => .ok (.ow o) e
section
variable {X : Cx} {c : TC} {r : Ref} {W : WX} {a b e : Expr} {as es : List Expr} {ea : EvE} {ef : EvF} {er : EvR} {eb : EvB} {pos : Pos}
theorem tr_own (h : PE X e (TFof c r W ef)) : PE X e (TRof c r W (rOwn ef)) := PE.imp h fun σ H Q ⟨ads, G, env, R, h⟩ =>
  ⟨ads, G, env, R, Sat_mono (Sat_bind.mp h) (fun o e1 h1 ads1 G1 H1 p1 ad R1 s1 ow nw => h1 ads1 G1 H1 (.ref p1) R1 s1 ⟨p1, ad, rfl, ow, nw⟩) fun _ _ z => z⟩
theorem tb_nil : PA X [] (TBof c r W bNil) := PA.imp pa_nil fun σ H Q ⟨ads, G, env, R, h⟩ => h ads G H [] [] R (Nxt.refl _ _ _) trivial
theorem OwRep.on {G G1 H H1 : Hp} {p : Addr} {ad : List Addr} {o : OS} (s : Sub G G1) (h : OwRep c G H p ad o) (k : ∀ a ∈ ad, ∀ u, H a = some u → H1 a = some u) : OwRep c G1 H1 p ad o := by
  have z : SlotRep c G H ad (some (.ow o)) (some (.ref p)) := ⟨p, rfl, h⟩
  obtain ⟨q, e, w⟩ := z.stay s k
  cases e
  exact w
theorem tb_cons (ha : PE X e (TRof c r W er)) (hr : PA X es (TBof c r W eb)) (hs : starEach (e :: es) X.env = (false, eval e X.env) :: starEach es X.env := by rfl) : PA X (e :: es) (TBof c r W (bCons er eb)) :=
  PA.imp (pa_cons ha hr hs) fun σ H Q ⟨ads, G, env, R, h⟩ => by
    refine ⟨ads, G, env, R, Sat_mono (Sat_bind.mp h) (fun x e1 h1 ads1 G1 H1 v1 R1 s1 p1 => ?_) fun _ _ z => z⟩
    refine ⟨ads1, G1, e1, R1, Sat_mono (Sat_bind.mp h1) (fun xs e2 h2 ads2 G2 H2 adl vs R2 s2 p2 => ?_) fun x e z => z.weak s1.sub⟩
    cases x with
    | t t => 
      refine h2 ads2 G2 H2 ([] :: adl) (v1 :: vs) R2 (s1.trans s2) ⟨⟨rfl, Rep.mono s2.sub p1⟩, (fun _ z => nomatch z), ?_⟩
      have key : ∀ {adl : List (List Addr)} {as : List Arg} {vs : List V}, NewL c r ads2 G2 H1 H2 adl as vs → NewL c r ads2 G2 H H2 adl as vs := fun {adl} => by
        induction adl with
        | nil => intro as vs h; cases as <;> cases vs <;> exact h
        | cons ad adl ih =>
          intro as vs h
          cases as with
          | nil => exact h.elim
          | cons a as =>
            cases vs with
            | nil => exact h.elim
            | cons v vs =>
              refine ⟨?_, h.2.1, ih h.2.2⟩
              cases a with
              | t t => exact h.1
              | ow o =>
                obtain ⟨p, e0, ow, nw⟩ := h.1
                exact ⟨p, e0, ow, fun b hb => ⟨(nw b hb).1, s1.there b (nw b hb).2⟩⟩
      exact key p2
    | ow o =>
      obtain ⟨p, ad, e0, ow, nw⟩ := p1
      have hold : ∀ b ∈ ad, ∃ u, H1 b = some u ∧ H2 b = some u ∧ (∀ j, b ∉ ads2 j) ∧ G2 b = none := fun b hb => by
        obtain ⟨u, hu⟩ := ow.has b hb
        obtain ⟨z1, z2, z3⟩ := s2.hold b u hu (nw b hb).1.2.2
        exact ⟨u, hu, z1, z2, z3 (ow.nk b hb u hu) (nw b hb).1.1⟩
      have ow2 : OwRep c G2 H2 p ad o := ow.on s2.sub fun b hb u hu => by
        obtain ⟨u', h1', h2', _⟩ := hold b hb
        rw [hu] at h1'; cases h1'
        exact h2'
      have key : ∀ {adl : List (List Addr)} {as : List Arg} {vs : List V}, NewL c r ads2 G2 H1 H2 adl as vs → NewL c r ads2 G2 H H2 adl as vs ∧ ∀ x ∈ adl.flatten, H1 x = none := fun {adl} => by
        induction adl with
        | nil => intro as vs h; cases as <;> cases vs <;> exact ⟨h, (fun _ z => nomatch z)⟩
        | cons ad adl ih =>
          intro as vs h
          cases as with
          | nil => exact h.elim
          | cons a as =>
            cases vs with
            | nil => exact h.elim
            | cons v vs =>
              obtain ⟨k1, k2⟩ := ih h.2.2
              cases a with
              | t t =>
                refine ⟨⟨h.1, h.2.1, k1⟩, fun x hx => ?_⟩
                rw [List.flatten_cons, h.1.1, List.nil_append] at hx
                exact k2 x hx
              | ow o =>
                obtain ⟨p, e0, ow, nw⟩ := h.1
                refine ⟨⟨⟨p, e0, ow, fun b hb => ⟨(nw b hb).1, s1.there b (nw b hb).2⟩⟩, h.2.1, k1⟩, fun x hx => ?_⟩
                rw [List.flatten_cons] at hx
                rcases List.mem_append.mp hx with z | z
                · exact (nw x z).2
                · exact k2 x z
      obtain ⟨k1, k2⟩ := key p2
      refine h2 ads2 G2 H2 (ad :: adl) (v1 :: vs) R2 (s1.trans s2) ⟨⟨p, e0, ow2, fun b hb => ?_⟩, fun x hx hm => ?_, k1⟩
      · obtain ⟨u, h1', h2', z2, z3⟩ := hold b hb
        exact ⟨⟨z3, (nw b hb).1.2.1, z2⟩, (nw b hb).2⟩
      · obtain ⟨u, h1', _⟩ := hold x hx
        rw [k2 x hm] at h1'; cases h1'
theorem RS.put {ads : Nat → List Addr} {G H0 H : Hp} {σ : L2.St} {env : En} {i : Nat} {x : Arg} {v : V} {ad : List Addr} (R : RS c r ads G H σ env) (h : ResAd c r ads G H0 H ad x v) (hp : (r.pins.map Prod.fst).contains i = false) (hi : i < env.length) :
    RS c r (fun j => if j = i then ad else ads j) G H (σ.set i (some v)) (env.set i (some x)) := by
  cases x with
  | t t =>
    obtain ⟨rfl, h⟩ := h
    exact R.set h hp
  | ow o =>
    obtain ⟨p, rfl, ow, nw⟩ := h
    exact R.setOwn ow (fun a ha => (nw a ha).1) hp hi
theorem ResAd.put {ads : Nat → List Addr} {G H0 H : Hp} {x : Arg} {v : V} {ad ad' : List Addr} {i : Nat} (h : ResAd c r ads G H0 H ad x v) (no : ∀ a ∈ ad, a ∉ ad') : ResAd c r (fun j => if j = i then ad' else ads j) G H0 H ad x v := by
  cases x with
  | t t => exact h
  | ow o =>
    obtain ⟨p, rfl, ow, nw⟩ := h
    refine ⟨p, rfl, ow, fun a ha => ⟨⟨(nw a ha).1.1, (nw a ha).1.2.1, fun j hj => ?_⟩, (nw a ha).2⟩⟩
    have hj' : a ∈ (if j = i then ad' else ads j) := hj
    by_cases q : j = i
    · rw [if_pos q] at hj'; exact no a ha hj'
    · rw [if_neg q] at hj'; exact (nw a ha).1.2.2 j hj'
@[simp] def sPar (i j : Nat) (eb : EvB) : EvS := fun env => (eb env).so fun as e => match as with
  | [x, y] => if i < e.length ∧ j < e.length then .nx ((e.set i (some x)).set j (some y)) else .bad
  | _ => .bad
theorem ts_par {i j : Nat} {x y : Str} {px py pt pt2 : Pos} {kt k2 : Nat} (hc : X.calm = true) (hN : X.N.Nodup) (hi : X.N[i]? = some x) (hj : X.N[j]? = some y) (hij : i ≠ j) (hx : X.env.scope.names.lookup x = some .local) (hy : X.env.scope.names.lookup y = some .local)
    (hpi : (r.pins.map Prod.fst).contains i = false) (hpj : (r.pins.map Prod.fst).contains j = false) (ha : PA X [a, b] (TBof c r W eb)) (hw : swappedStores [.Tuple [.Name x px, .Name y py] kt pt] (.Tuple [a, b] k2 pt2) X.env = pure (some [x, y]) := by rfl)
    (hs : swapsWithSole [.Tuple [.Name x px, .Name y py] kt pt] (.Tuple [a, b] k2 pt2) pos.line X.env = pure false := by rfl) : PS X (.Assign [.Tuple [.Name x px, .Name y py] kt pt] (.Tuple [a, b] k2 pt2) pos) (TSof c r W (sPar i j eb)) :=
  PS.imp (ps_par hc hN hi hj hij hx hy ha hw hs) fun D σ H ⟨ads, G, env, R, h⟩ => by
    refine ⟨ads, G, env, R, Sat_mono (RE.so_Sat.mp h) (fun as e1 h1 ads1 G1 H1 adl vs R1 s1 nl => ?_) fun x e z => XC.of z⟩
    match as, adl, vs, nl, h1 with
    | [u, w], [ad1, ad2], [v1, v2], nl, h1 =>
      refine ⟨v1, v2, rfl, ?_⟩
      have h1' : (if i < e1.length ∧ j < e1.length then SO.nx ((e1.set i (some u)).set j (some w)) else .bad).Sat (Kof c r W G D) := h1
      by_cases l : i < e1.length ∧ j < e1.length
      · rw [if_pos l] at h1'
        have R2 := R1.put nl.1 hpi l.1
        have q : ResAd c r (fun k => if k = i then ad1 else ads1 k) G1 H H1 ad2 w v2 := nl.2.2.1.put fun a ha hb => nl.2.1 a hb (by simpa using ha)
        have R3 := R2.put q hpj (by rw [List.length_set]; exact l.2)
        exact h1' _ G1 H1 _ R3 s1.sub
      · rw [if_neg l] at h1'; exact h1'.elim
    | [], _, _, _, h1 => exact h1.elim
    | [_], _, _, _, h1 => exact h1.elim
    | _ :: _ :: _ :: _, _, _, _, h1 => exact h1.elim
    | [_, _], [], _, nl, _ => exact nl.elim
    | [_, _], [_], [], nl, _ => exact nl.elim
    | [_, _], [_], _ :: _, nl, _ => exact nl.2.2.elim
    | [_, _], _ :: _ :: _ :: _, [], nl, _ => exact nl.elim
    | [_, _], _ :: _ :: _ :: _, [_], nl, _ => exact nl.2.2.elim
    | [_, _], _ :: _ :: _ :: _, [_, _], nl, _ => exact nl.2.2.2.2.elim
    | [_, _], _ :: _ :: _ :: _, _ :: _ :: _ :: _, nl, _ => exact nl.2.2.2.2.elim
    | [_, _], [_, _], [], nl, _ => exact nl.elim
    | [_, _], [_, _], [_], nl, _ => exact nl.2.2.elim
    | [_, _], [_, _], _ :: _ :: _ :: _, nl, _ => exact nl.2.2.2.2.elim
@[simp] def sPar3 (i j k : Nat) (eb : EvB) : EvS := fun env => (eb env).so fun as e => match as with
  | [x, y, z] => if i < e.length ∧ j < e.length ∧ k < e.length then .nx (((e.set i (some x)).set j (some y)).set k (some z)) else .bad
  | _ => .bad
end

inductive Kd where
  | non | bl | int | str | lst | tup | dct | ins (k : Nat) | other
  deriving DecidableEq
@[simp] def kindOf : PV → Kd
  | .non => .non
  | .bl _ => .bl
  | .int _ => .int
  | .str _ => .str
  | .lst _ => .lst
  | .tup _ => .tup
  | .dct _ _ => .dct
  | .ins k _ => .ins k
  | .scr _ => .other
  | .cls _ => .other
  | .slc _ _ _ => .other
def tyVal (c : TC) : Kd → Value
  | .non => .type "NoneType"
  | .bl => .type "bool"
  | .int => .type "int"
  | .str => .type "str"
  | .lst => .type "list"
  | .tup => .type "tuple"
  | .dct => .type "dict"
  | .ins k => .ref (c.C k)
  | .other => .none
structure IsiC (K : PySem.W.Frag) (C : Addr) : Prop where
  cl : Cls K C
  ha : PySem.W.findIn K (.ref C) "__class__" = some (some (.builtin "object.__class__"))
  hn : PySem.W.specialIn K (.builtin "object.__class__") "__get__" = some (some (.builtin "getset_descriptor.__get__"))
  htk : PySem.W.takesIn K (.builtin "object.__class__") = some true
  hm : PySem.W.mroIn K C (.type "object") = some true
@[simp] def isiF (tb : Kd → Option Bool) (ks : List Nat) (t : PV) : Option Bool := match kindOf t with
  | .ins k => if ks.contains k then tb (.ins k) else none
  | .other => none
  | d => tb d
theorem isi_ty {c : TC} {G H : Hp} {t : PV} {v : V} {ks : List Nat} (s : Sub G H) (hk : ∀ k ∈ ks, IsiC c.K (c.C k)) (w : WRep c G H t v) (h : match kindOf t with | .ins k => ks.contains k = true | .other => False | _ => True) : TyX c.K H v (tyVal c (kindOf t)) := by
  cases t with
  | non => cases w; exact .base .non
  | bl b => cases w; exact .base (.bl b)
  | int b => cases w; exact .base (.int b)
  | str b => obtain ⟨rfl, _⟩ := w; exact .base (.str b)
  | lst xs => obtain ⟨p, vs, rfl, hx, _⟩ := w; exact .base (.lst hx)
  | tup xs =>
    obtain ⟨p, vs, rfl, hx, _⟩ := w
    rcases s.sqT hx with (h | ⟨o, h⟩) | ⟨o, its, n, h, hc, _⟩
    · exact .base (.tup h)
    · exact .fTuple h
    · exact .kTuple h hc
  | ins k fs =>
    obtain ⟨p, dx, gs, rfl, hx, _⟩ := w
    have i := hk k (List.contains_iff_mem.mp h)
    exact .base (.ins hx i.cl i.ha i.hn i.htk i.hm)
  | dct b kvs =>
    obtain ⟨p, rfl, hx⟩ := w
    rcases hx with ⟨_, ks, hx, _⟩ | ⟨_, ks, hx, _⟩
    · exact .base (.dK hx)
    · exact .base (.dT hx)
  | scr _ => exact h.elim
  | cls _ => exact h.elim
  | slc _ _ _ => exact h.elim
@[simp] def eIsi (tb : Kd → Option Bool) (ks : List Nat) (ea : EvE) : EvE := fun env => (ea env).bind fun x e => match look e x with
  | some t => (ofO (isiF tb ks t) e).bind fun b e => .ok (.tr (.bl b)) e
  | none => .bad
section
variable {X : Cx} {c : TC} {r : Ref} {W : WX} {e cl : Expr} {cls : List Expr} {ea : EvE} {tb : Kd → Option Bool} {ks : List Nat} {pos p : Pos}
theorem isiF_some {t : PV} {b : Bool} (h : isiF tb ks t = some b) : tb (kindOf t) = some b ∧ (match kindOf t with | .ins k => ks.contains k = true | .other => False | _ => True) := by
  unfold isiF at h
  cases q : kindOf t with
  | ins k =>
    rw [q] at h
    simp only at h
    by_cases m : ks.contains k = true
    · rw [if_pos m] at h; exact ⟨h, m⟩
    · rw [if_neg m] at h; cases h
  | other => rw [q] at h; cases h
  | _ => rw [q] at h; exact ⟨h, trivial⟩
theorem pt_isi {u : Value} {v : V} (hK : X.K = c.K) (hk : ∀ k ∈ ks, IsiC c.K (c.C k)) (hu : ClsV v u) (ht : ∀ d b, (∀ k, d = .ins k → ks.contains k = true) → tb d = some b → PySem.W.kitOne c.K (tyVal c d) u = some b) (hg : Gl X "isinstance") (hm : X.mg "isinstance" = none) (he : PE X e (TEof c r W ea)) (hcl : PE X cl (tC v))
    (h1 : starEach [e, cl] X.env = (false, eval e X.env) :: starEach [cl] X.env := by rfl) (h2 : starEach [cl] X.env = (false, eval cl X.env) :: starEach [] X.env := by rfl) (hpl : (backTo pos (starEach [cl] X.env)).any (·.1) = false := by rfl) :
    PE X (.Call (.Name "isinstance" p) [e, cl] [] pos) (TEof c r W (eIsi tb ks ea)) := PE.imp (pe_callB call_isi hg hm boot_isinstance (pa_cons he (pa_cons hcl pa_nil h2) h1) (by decide) (by decide) h1 hpl) fun σ H Q ⟨ads, G, env, R, h⟩ => by
  refine ⟨ads, G, env, R, Sat_mono (Sat_bind.mp h) (fun x e1 h1 ads1 G1 H1 v1 R1 s1 p1 => ?_) fun _ _ z => z⟩
  cases q : look e1 x with
  | none => simp only [q] at h1; exact h1.elim
  | some t =>
    simp only [q] at h1
    obtain ⟨b, hb, h2⟩ := Sat_ofO.mp (Sat_bind.mp h1)
    obtain ⟨z1, z2⟩ := isiF_some hb
    have w := look_rep R1 p1 q
    refine ⟨v1, v, _, u, b, rfl, hu, by rw [hK]; exact isi_ty R1.sub hk w z2, by rw [hK]; exact ht (kindOf t) b (fun k hk' => by rw [hk'] at z2; exact z2) z1, h2 ads1 G1 H1 _ R1 s1 (rep_bl (c := c) G1)⟩
theorem pt_isiT {us : List Value} {vs : List V} {x1 : Nat} {tp : Pos} {tcl : TA} (hK : X.K = c.K) (hk : ∀ k ∈ ks, IsiC c.K (c.C k)) (hu : Paired ClsV vs us) (hl : vs.length ≤ sizeLine) (ht : ∀ d b, (∀ k, d = .ins k → ks.contains k = true) → tb d = some b → PySem.W.kitAny c.K (tyVal c d) us = some b) (hg : Gl X "isinstance") (hm : X.mg "isinstance" = none) (he : PE X e (TEof c r W ea))
    (hcl : PA X cls (fun σ H Q => Q vs H))
    (h1 : starEach [e, .Tuple cls x1 tp] X.env = (false, eval e X.env) :: starEach [.Tuple cls x1 tp] X.env := by rfl) (h2 : starEach [.Tuple cls x1 tp] X.env = (false, eval (.Tuple cls x1 tp) X.env) :: starEach [] X.env := by rfl) (hpl : (backTo pos (starEach [.Tuple cls x1 tp] X.env)).any (·.1) = false := by rfl) :
    PE X (.Call (.Name "isinstance" p) [e, .Tuple cls x1 tp] [] pos) (TEof c r W (eIsi tb ks ea)) := PE.imp (pe_callB call_isiT hg hm boot_isinstance (pa_cons he (pa_cons (pe_tup hcl) pa_nil h2) h1) (by decide) (by decide) h1 hpl) fun σ H Q ⟨ads, G, env, R, h⟩ => by
  refine ⟨ads, G, env, R, Sat_mono (Sat_bind.mp h) (fun x e1 h1 ads1 G1 H1 v1 R1 s1 p1 => ⟨hl, fun tpa hn => ?_⟩) fun _ _ z => z⟩
  cases q : look e1 x with
  | none => simp only [q] at h1; exact h1.elim
  | some t =>
    simp only [q] at h1
    obtain ⟨b, hb, h2⟩ := Sat_ofO.mp (Sat_bind.mp h1)
    obtain ⟨z1, z2⟩ := isiF_some hb
    have w := look_rep R1 p1 q
    have st : Step [] H1 G1 (upd H1 tpa (.tup vs)) G1 := Step.allocO R1.sub hn
    have R2 := R1.next st
    have w2 := look_rep R2 p1 q
    refine ⟨v1, tpa, vs, _, us, b, rfl, upd_same, hu, by rw [hK]; exact isi_ty R2.sub hk w2 z2, by rw [hK]; exact ht (kindOf t) b (fun k hk' => by rw [hk'] at z2; exact z2) z1, h2 ads1 G1 _ _ R2 (s1.trans (Nxt.of st)) (rep_bl (c := c) G1)⟩
end
end TreeL
end
section
namespace TreeL
open PySem PySem.Spec PyProof.Rows L2

section
variable {prog : Program} {w : World} {A : Around} {E : Value → Shared → Prop} {s : Shared}
theorem draw_lst {it l : Addr} {items : Array Value} (hne : l ≠ it) : ∀ (n i : Nat) (s : Shared) (Q : List Value → Shared → Prop), s.heap.IsListIter it l i → s.heap.IsList l items → i + n ≤ items.size →
    (∀ h', h'.IsListIter it l (i + n) → Heap.SameBut it s.heap h' → Q ((items.toList.drop i).take n) { s with heap := h' }) → wpAny (model prog w) A (draw (.ref it) n) Q E s
  | 0, i, s, Q, hit, _, _, hQ => wpAny_pure (by simpa using hQ s.heap hit (Heap.SameBut.refl ..))
  | n + 1, i, s, Q, hit, ht, hle, hQ => by
    have hlt : i < items.size := by omega
    show wpAny _ _ (pyNext (.ref it) >>= _) Q E s
    refine wpAny_bind (wpAny_pyNext_list_item hit ht (x := items[i]) (by simp [hlt]) fun h1 hit1 hs1 => ?_)
    refine wpAny_bind (wpAny_holding (draw_lst hne n (i + 1) _ _ hit1 (ht.extBut hs1.extBut hne) (by omega) fun h2 hit2 hs2 => wpAny_pure ?_))
    have hd : items.toList.drop i = items[i] :: items.toList.drop (i + 1) := by simp [List.drop_eq_getElem_cons, hlt]
    have z := hQ h2 (by rw [show i + (n + 1) = i + 1 + n by omega]; exact hit2) (hs1.trans hs2)
    rw [hd, List.take_succ_cons] at z
    exact z
theorem iter_not_refused {l : Addr} {items : Array Value} (hl : s.heap.IsList l items) {α : Type} {f : Bool → Sem α} {Q : α → Shared → Prop} (h : wpAny (model prog w) A (f false) Q E s) : wpAny (model prog w) A (notIterableAtAll (.ref l) >>= f) Q E s := by
  refine wpAny_bind ?_
  unfold notIterableAtAll
  refine wpAny_bind (wpAny_specialOf hl.typeIs slot_list_iter.lookup ?_)
  exact wpAny_pure h
theorem unpack_lst {l : Addr} {items : Array Value} {Q : List Value → Shared → Prop} (hh : A.handled = none) (hl : s.heap.IsList l items)
    (hQ : ∀ h', Heap.ExtBut s.heap.objs.size s.heap h' → Q items.toList { s with heap := h' }) : wpAny (model prog w) A (unpackItems (.ref l) items.size none) Q E s := by
  have hlt : l ≠ s.heap.objs.size := by obtain ⟨o, ho, _⟩ := hl; exact Nat.ne_of_lt (Heap.lt_size ho)
  unfold unpackItems
  refine iter_not_refused hl ?_
  simp only [Bool.false_eq_true, if_false]
  refine wpAny_bind (wpAny_holding (wpAny_pyIter_list hl ?_))
  refine wpAny_bind (wpAny_holding (draw_lst hlt items.size 0 _ _ ⟨_, Heap.get?_push_size _ rfl, rfl, rfl⟩ (hl.push _) (by omega) fun h1 hit1 hs1 => ?_))
  have hall : List.take items.size (List.drop 0 items.toList) = items.toList := by
    rw [List.drop_zero]; exact List.take_of_length_le (by simp)
  rw [hall, if_neg (by simp)]
  have hl1 : h1.IsList l items := (hl.push _).extBut hs1.extBut hlt
  refine wpAny_bind (wpAny_holding (wpAny_pyNext_list_end hh hit1 hl1 (by simp) fun h2 he2 => ?_))
  simp only [Option.isSome_none, Bool.false_eq_true, if_false]
  exact wpAny_pure (hQ h2 fun b o hb e => he2 b o hb (hs1.extBut b o hb (Heap.get?_push_of_some _ e)))
end

@[simp] def gTpL (n : Nat) (gs : List PV → En → Option En) : Tg := fun t env => match t with
  | .tup ts => if ts.length = n then gs ts env else none
  | .lst ts => if ts.length = n then gs ts env else none
  | _ => none
@[simp] def gStr (k : Nat) (gs : List PV → En → Option En) : Tg := fun t env => match t with
  | .lst ts => if k ≤ ts.length then gs (ts.take k ++ [.lst (ts.drop k)]) env else none
  | _ => none
section
variable {X : Cx} {c : TC} {r : Ref} {W : WX} {es : List Expr} {gs : List PV → En → Option En} {pos : Pos} {ws : List Nat}
theorem tg_tupL {k n : Nat} (hK : X.K = c.K) (hc : X.calm = true) (h : PGs X es (TGsof c r ws gs)) (hn : (assignEach es X.env).length = n := by rfl) (hst : (assignEach es X.env).findIdx? (·.1) = none := by rfl) : PG X (.Tuple es k pos) (TGof c r ws (gTpL n gs)) := by
  have h0 := (tg_tup hK hc h hn hst : PG X (.Tuple es k pos) (TGof c r ws (gTp n gs)))
  refine ⟨fun pins st σ H v u Q I rv ⟨ads, G, env, t, env', R, rp, e, kq⟩ => ?_⟩
  cases t with
  | tup ts => exact h0.run pins st σ H v u Q I rv ⟨ads, G, env, .tup ts, env', R, rp, e, kq⟩
  | lst ts =>
    have e' : (if ts.length = n then gs ts env else none) = some env' := e
    by_cases l : ts.length = n
    · rw [if_pos l] at e'
      simp only [Rep] at rp
      obtain ⟨a, vs, rfl, hx, rr⟩ := rp
      cases rv
      obtain ⟨its, rvs, hl, hz⟩ := I.list (.inl (.inl (R.sub _ _ hx)))
      rw [assign_Tuple]
      refine wpAny_bind (wpAny_standAt ?_)
      unfold unpack
      have e1 : (assignEach es X.env).length = its.toArray.size := by rw [hn, ← l, ← rr.length, rvs.length, List.size_toArray]
      rw [e1, hst]
      refine wpAny_bind (wpAny_holding (unpack_lst (I.ok.hd hc) hl.isList fun h' hx' => ?_))
      have I1 : Inv X pins σ H { st with heap := h' } := I.kept (t' := st.toks) fun b o e => hx' b o (Nat.ne_of_lt (Heap.lt_size e)) e
      exact h.run pins _ σ H vs _ Q I1 rvs ⟨ads, G, env, ts, env', R, rr, e', kq⟩
    · rw [if_neg l] at e'; cases e'
  | _ => cases e
end

inductive CapP : List Pattern → List Str → Prop where
  | nil : CapP [] []
  | cons {x : Str} {p : Pos} {ps : List Pattern} {xs : List Str} (h : CapP ps xs) : CapP (.MatchAs none (some x) p :: ps) (x :: xs)
theorem CapP.length : ∀ {ps : List Pattern} {xs : List Str}, CapP ps xs → ps.length = xs.length
  | _, _, .nil => rfl
  | _, _, .cons h => by simp [CapP.length h]
section
variable {M : Model} {A : Around} {E : Value → Shared → Prop} {s : Shared} {env : Env}
end
abbrev EvC := PV → EvS
def setsE : List Nat → List PV → En → En
  | i :: is, t :: ts, env => setsE is ts (env.set i (some (.t t)))
  | _, _, env => env
def seqP : PV → Option (List PV)
  | .lst ts => some ts
  | .tup ts => some ts
  | _ => none
def cNil : EvC := fun _ env => .nx env
def cSeq (is : List Nat) (gd : EvT) (body : EvS) (rest : EvC) : EvC := fun t env => match seqP t with
  | some ts => if ts.length = is.length then (gd (setsE is ts env)).so fun b e => if b then body e else rest t e else rest t env
  | none => .bad
def sMatch (ea : EvE) (cs : EvC) : EvS := fun env => (ea env).so fun x e => match x with
  | .tr t => cs t e
  | .sl _ => .bad
structure PMs (X : Cx) (c : TC) (r : Ref) (W : WX) (cases : List MatchCase) (cs : EvC) : Prop where
  run : ∀ (first : Bool) (pins : List (Addr × Obj)) (st : Shared) (σ : L2.St) (H : Hp) (D : Ends) (v : V) (u : Value) (t : PV) (ads : Nat → List Addr) (G : Hp) (env : En), Inv X pins σ H st → RelV v u → RS c r ads G H σ env → Rep c G t v → (cs t env).Sat (Kof c r W G D) →
    wpAny (model X.prog X.w) X.A (matchCases cases X.env u first) (SP X pins D) X.xe st
section
variable {X : Cx} {c : TC} {r : Ref} {W : WX} {e : Expr} {ea : EvE} {cases rest : List MatchCase} {cs : EvC} {pos p : Pos} {is : List Nat} {xs : List Str} {ps : List Pattern} {body : List Stmt} {gd : EvT} {ys : EvS}
end
end TreeL
end
section
namespace TreeL
open PySem PySem.Spec PyProof.Rows L2

abbrev GREAT : Str := ("great" : Str)
def bxK (q : Addr) (fs : List (Str × Int)) : List (Key × V) := (Sum.inr GREAT, V.ref q) :: fs.map fun f => (Sum.inr f.1, V.int f.2)
def updI (k : Str) (n : Int) (fs : List (Str × Int)) : List (Str × Int) := fs.map fun f => if f.1 = k then (f.1, n) else f
theorem bx_great {q : Addr} {fs : List (Str × Int)} : valV (bxK q fs) (Sum.inr GREAT) = some (.ref q) := valV_pos rfl
theorem bx_get {q : Addr} {k : Str} {n : Int} (hk : k ≠ GREAT) : ∀ {fs : List (Str × Int)}, fs.lookup k = some n → valV (bxK q fs) (Sum.inr k) = some (.int n) := fun {fs} h => by
  unfold bxK
  rw [valV_neg (by simpa using Ne.symm hk)]
  induction fs with
  | nil => simp at h
  | cons f fs ih =>
    obtain ⟨g, m⟩ := f
    rw [List.lookup_cons] at h
    by_cases e : g = k
    · subst e
      simp at h
      subst h
      exact valV_pos rfl
    · rw [List.map_cons, valV_neg (by simpa using e)]
      have e' : (k == g) = false := by simpa using Ne.symm e
      rw [e'] at h
      exact ih h
theorem bx_put {q : Addr} {k : Str} {n m : Int} (hk : k ≠ GREAT) {fs : List (Str × Int)} (h : fs.lookup k = some m) : putK (bxK q fs) (Sum.inr k) (.int n) = bxK q (updI k n fs) := by
  have any : ((bxK q fs).any fun kv => decide (kv.1 = (Sum.inr k : Key))) = true := by
    rw [valV_any, bx_get hk h]
    rfl
  unfold putK
  rw [if_pos any]
  unfold bxK updI
  rw [List.map_cons, if_neg (by simpa using Ne.symm hk), List.map_map, List.map_map]
  congr 1
  apply List.map_congr_left
  intro f _
  show (if (Sum.inr f.1 : Key) = Sum.inr k then _ else _) = ((Sum.inr (if f.1 = k then (f.1, n) else f).1 : Key), V.int (if f.1 = k then (f.1, n) else f).2)
  by_cases e : f.1 = k
  · rw [if_pos (by rw [e]), if_pos e]
  · rw [if_neg (by simpa using e), if_neg e]
theorem bx_len {q : Addr} {fs : List (Str × Int)} : (bxK q fs).length = fs.length + 1 := by simp [bxK]
theorem boxD_at {c : TC} {G H : Hp} {p : Addr} {ad : List Addr} {great : List Int} {fs : List (Str × Int)} (h : OwRep c G H p ad (.boxD great fs)) : ∃ q, ad = [p, q] ∧ p ≠ q ∧ H q = some (.lst (great.map V.int)) ∧ H p = some (.dK (bxK q fs)) := h

def eBget (i : Nat) (k : Str) : EvE := fun env => match env[i]? with
  | some (some (.ow (.boxD _ fs))) => if k = GREAT then .bad else (ofO (fs.lookup k) env).bind fun n e => .ok (.tr (.int n)) e
  | _ => .bad
def eBlen (i : Nat) : EvE := fun env => match env[i]? with
  | some (some (.ow (.boxD great _))) => .ok (.tr (.int great.length)) env
  | _ => .bad
def eBpop (i : Nat) : EvE := fun env => match env[i]? with
  | some (some (.ow (.boxD great fs))) => (ofO great[great.length - 1]? env).bind fun n e => .ok (.tr (.int n)) (e.set i (some (.ow (.boxD great.dropLast fs))))
  | _ => .bad
def sBput (i : Nat) (k : Str) (ea : EvE) : EvS := fun env => (ea env).so fun x e => match look e x, e[i]? with
  | some (.int n), some (some (.ow (.boxD great fs))) => if k ≠ GREAT ∧ (fs.lookup k).isSome ∧ fs.length < 1000 then .nx (e.set i (some (.ow (.boxD great (updI k n fs))))) else .bad
  | _, _ => .bad
section
variable {X : Cx} {c : TC} {r : Ref} {W : WX} {o e : Expr} {ea : EvE} {i : Nat} {k : Str} {pos pos' p p2 apos cpos : Pos} {j : Nat}
theorem box_slot {ads : Nat → List Addr} {G H : Hp} {σ : L2.St} {env : En} {great : List Int} {fs : List (Str × Int)} (R : RS c r ads G H σ env) (q : env[i]? = some (some (.ow (.boxD great fs)))) :
    ∃ a b, σ[i]? = some (some (.ref a)) ∧ ads i = [a, b] ∧ a ≠ b ∧ H b = some (.lst (great.map V.int)) ∧ H a = some (.dK (bxK b fs)) := by
  obtain ⟨a, e, ow⟩ := slot_own R q
  obtain ⟨b, h1, h2, h3, h4⟩ := boxD_at ow
  exact ⟨a, b, e, h1, h2, h3, h4⟩
theorem pt_bget (hu : X.A.units + 1 < cLine) (ho : PE X o (tVar i)) : PE X (.Subscript o (.Constant (.str k) j p) pos) (TEof c r W (eBget i k)) := PE.imp (pe_dget hu ho (pe_str (x := k)) fun _ _ => rfl) fun σ H Q ⟨ads, G, env, R, h⟩ => by
  simp only [eBget] at h
  cases q : env[i]? with
  | none => simp only [q] at h; exact h.elim
  | some u =>
    cases u with
    | none => simp only [q] at h; exact h.elim
    | some u =>
      cases u with
      | t _ => simp only [q] at h; exact h.elim
      | ow u =>
        cases u with
        | boxD great fs =>
          simp only [q] at h
          by_cases hk : k = GREAT
          · rw [if_pos hk] at h; exact h.elim
          · rw [if_neg hk] at h
            obtain ⟨n, hn, h2⟩ := Sat_ofO.mp (Sat_bind.mp h)
            obtain ⟨a, b, e1, e2, e3, e4, e5⟩ := box_slot R q
            exact ⟨.ref a, e1, a, .int n, rfl, .inl ⟨_, .inr k, .inl e5, rfl, (bx_get hk hn).symm⟩, h2 ads G H _ R (Nxt.refl _ _ _) (rep_int (c := c) G)⟩
        | _ => simp only [q] at h; exact h.elim
theorem RS.bwrite {ads : Nat → List Addr} {G H : Hp} {σ : L2.St} {env : En} {a b : Addr} {great great' : List Int} {fs fs' : List (Str × Int)} (R : RS c r ads G H σ env) (e1 : σ[i]? = some (some (.ref a))) (e2 : ads i = [a, b]) (e3 : a ≠ b) (e4 : H b = some (.lst (great.map V.int))) (e5 : H a = some (.dK (bxK b fs))) :
    RS c r ads G (upd H b (.lst (great'.map V.int))) σ (env.set i (some (.ow (.boxD great' fs)))) ∧ RS c r ads G (upd H a (.dK (bxK b fs'))) σ (env.set i (some (.ow (.boxD great fs')))) := by
  constructor
  · refine R.write e1 (by rw [e2]; simp) e4 ⟨b, e2, e3, upd_same, ?_⟩
    rw [upd_ne e3]
    exact e5
  · refine R.write e1 (by rw [e2]; simp) e5 ⟨b, e2, e3, ?_, upd_same⟩
    rw [upd_ne (Ne.symm e3)]
    exact e4
theorem ts_bput (hu : X.A.units + 1 < cLine) (ho : PE X o (tVar i)) (he : PE X e (TEof c r W ea)) (hs : swapsWith e (some (.Subscript o (.Constant (.str k) j p) pos')) pos.line X.env = pure false := by rfl) :
    PS X (.Assign [.Subscript o (.Constant (.str k) j p) pos'] e pos) (TSof c r W (sBput i k ea)) := PS.imp (ps_dput hu ho (pe_str (x := k)) he hs) fun D σ H ⟨ads, G, env, R, h⟩ => by
  refine ⟨ads, G, env, R, Sat_mono (RE.so_Sat.mp h) (fun x e1 h1 ads1 G1 H1 v1 R1 s1 p1 => ?_) fun x e z => XC.of z⟩
  cases ql : look e1 x with
  | none => simp only [ql] at h1; exact h1.elim
  | some t =>
    have w := look_rep R1 p1 ql
    cases t with
    | int n =>
      cases w
      cases q : e1[i]? with
      | none => simp only [ql, q] at h1; exact h1.elim
      | some u =>
        cases u with
        | none => simp only [ql, q] at h1; exact h1.elim
        | some u =>
          cases u with
          | t _ => simp only [ql, q] at h1; exact h1.elim
          | ow u =>
            cases u with
            | boxD great fs =>
              simp only [ql, q] at h1
              by_cases m : k ≠ GREAT ∧ (fs.lookup k).isSome ∧ fs.length < 1000
              · rw [if_pos m] at h1
                obtain ⟨m1, m2, m3⟩ := m
                obtain ⟨old, ho⟩ := Option.isSome_iff_exists.mp m2
                obtain ⟨a, b, z1, z2, z3, z4, z5⟩ := box_slot R1 q
                refine ⟨.ref a, z1, a, _, rfl, .inl ⟨_, .inr k, z5, rfl, ?_, rfl⟩, ?_⟩
                · rw [bx_len]
                  exact Nat.lt_of_lt_of_le (show fs.length + 1 < LIM by unfold LIM; omega) (lim_line (Nat.le_refl _))
                · rw [bx_put m1 ho]
                  exact h1 ads1 G1 _ σ (RS.bwrite (great' := great) (fs' := updI k n fs) R1 z1 z2 z3 z4 z5).2 s1.sub
              · rw [if_neg m] at h1; exact h1.elim
            | _ => simp only [ql, q] at h1; exact h1.elim
    | _ => simp only [ql] at h1; exact h1.elim

@[simp] def rRev (ea : EvE) : EvR := fun env => (ea env).bind fun x e => match look e x with
  | some (.lst ts) => .ok (.ow (.lst ts.reverse)) e
  | _ => .bad
theorem tr_rev {kk : Nat} {p1 p3 : Pos} (he : PE X e (TEof c r W ea)) : PE X (.Subscript e (.Slice none none (some (.UnaryOp .USub (.Constant (.int 1) kk p1) p2)) p3) pos) (TRof c r W (rRev ea)) := PE.imp (pe_revL he) fun σ H Q ⟨ads, G, env, R, h⟩ => by
  refine ⟨ads, G, env, R, Sat_mono (Sat_bind.mp h) (fun x e1 h1 ads1 G1 H1 v1 R1 s1 p1 => ?_) fun _ _ z => z⟩
  cases q : look e1 x with
  | none => simp only [q] at h1; exact h1.elim
  | some t =>
    have w := look_rep R1 p1 q
    cases t with
    | lst ts =>
      simp only [q] at h1
      obtain ⟨a, vs, rfl, hx, rr⟩ := w
      exact ⟨a, vs, rfl, .inl (.inl hx), QOut.list (QOut.res R1 s1 h1) rr.reverse⟩
    | _ => simp only [q] at h1; exact h1.elim

def bPairs : List (Str × EvE) → En → RE (List (Str × Int))
  | [], env => .ok [] env
  | (k, ea) :: r, env => (ea env).bind fun x e1 => match look e1 x with
    | some (.int n) => (bPairs r e1).bind fun ns e => .ok ((k, n) :: ns) e
    | _ => .bad
def fBox (ef : EvF) (fs : List (Str × EvE)) : EvF := fun env => (ef env).bind fun o e1 => match o with
  | .lst ts => (match intsP ts with
    | some ns => (bPairs fs e1).bind fun ms e => .ok (.boxD ns ms) e
    | none => .bad)
  | _ => .bad
theorem pairs_imp {σ : L2.St} : ∀ {fs : List (Str × EvE)} {ads0 ads : Nat → List Addr} {G0 H0 G H : Hp} {env : En} {Q : List (V × V) → Hp → Prop}, RS c r ads G H σ env → Nxt ads0 G0 H0 ads G H →
    (bPairs fs env).Sat (fun ns env' => ∀ ads' G' H', RS c r ads' G' H' σ env' → Nxt ads G H ads' G' H' → ns.map Prod.fst = fs.map Prod.fst → Q (ns.map fun q => (V.str q.1, V.int q.2)) H') (XC c r W G0 σ) → tPairs (fs.map fun q => (tC (.str q.1), TEof c r W q.2)) σ H Q
  | [], ads0, ads, G0, H0, G, H, env, Q, R, s0, h => h ads G H R (Nxt.refl _ _ _) rfl
  | (k, ea) :: fs, ads0, ads, G0, H0, G, H, env, Q, R, s0, h => by
    refine ⟨ads, G, env, R, Sat_mono (Sat_bind.mp h) (fun x e1 h1 ads1 G1 H1 v1 R1 s1 p1 => ?_) fun x e z => z.weak s0.sub⟩
    cases q : look e1 x with
    | none => simp only [q] at h1; exact h1.elim
    | some t =>
      have w := look_rep R1 p1 q
      cases t with
      | int n =>
        cases w
        simp only [q] at h1
        exact pairs_imp R1 (s0.trans s1) (Sat_mono (Sat_bind.mp h1) (fun ns e2 h2 ads2 G2 H2 R2 s2 hk => h2 ads2 G2 H2 R2 (s1.trans s2) (by simp [hk])) fun _ _ z => z)
      | _ => simp only [q] at h1; exact h1.elim
theorem merge_box {q : Addr} : ∀ {ns : List (Str × Int)} {acc : List (Key × V)}, (∀ f ∈ ns, ∀ kv ∈ acc, kv.1 ≠ Sum.inr f.1) → (ns.map Prod.fst).Nodup → mergeK acc (ns.map fun f => (Sum.inr f.1, V.int f.2)) = acc ++ ns.map fun f => (Sum.inr f.1, V.int f.2)
  | [], acc, _, _ => by simp [mergeK]
  | f :: ns, acc, h, nd => by
    rw [List.map_cons, List.nodup_cons] at nd
    have no : (acc.any fun kv => decide (kv.1 = (Sum.inr f.1 : Key))) = false := by
      rw [List.any_eq_false]
      intro kv hkv
      simpa using h f List.mem_cons_self kv hkv
    have e1 : putK acc (Sum.inr f.1 : Key) (V.int f.2) = acc ++ [(Sum.inr f.1, V.int f.2)] := by unfold putK; rw [no, if_neg Bool.false_ne_true]
    show mergeK (putK acc (Sum.inr f.1) (V.int f.2)) (ns.map fun f => (Sum.inr f.1, V.int f.2)) = _
    rw [e1, merge_box (q := q) (fun g hg kv hkv => ?_) nd.2]
    · simp
    · rcases List.mem_append.mp hkv with z | z
      · exact h g (List.mem_cons_of_mem _ hg) kv z
      · rw [List.mem_singleton.mp z]
        intro e
        have e' : f.1 = g.1 := Sum.inr.inj e
        exact nd.1 (by rw [e']; exact List.mem_map_of_mem hg)
theorem pf_box {keys : List (Option Expr)} {values : List Expr} {ef : EvF} {fs : List (Str × EvE)} (h : PPs X pos keys values ((tC (.str GREAT), TFof c r W ef) :: fs.map fun q => (tC (.str q.1), TEof c r W q.2))) (hnd : (GREAT :: fs.map Prod.fst).Nodup) (hl : fs.length ≤ 14)
    (hall : keys.all (·.isSome) = true := by rfl) (hkl : keys.length = values.length := by rfl) (h0 : keys ≠ [] := by intro z; cases z) (h15 : keys.length ≤ 15 := by decide) : PE X (.Dict keys values pos) (TFof c r W (fBox ef fs)) := PE.imp (pe_disp h hall hkl h0 h15) fun σ H Q ⟨ads, G, env, R, hh⟩ => fun p hp => by
  have R0 := R.lay (ho := .dK []) hp
  have n0 := New.of R hp
  have sx : Nxt ads G H ads G (upd H p (.dK [])) := Nxt.of (Step.allocO R.sub hp)
  refine ⟨ads, G, env, R0, Sat_mono (Sat_bind.mp hh) (fun o e1 h1 ads1 G1 H1 b ad R1 s1 ow nw => ?_) fun _ _ z => z⟩
  cases o with
  | lst ts =>
    cases qi : intsP ts with
    | none => simp only [qi] at h1; exact h1.elim
    | some ns =>
      simp only [qi] at h1
      obtain ⟨rfl, vs, hb, rr⟩ := ow
      have ev := ints_rep rr qi
      subst ev
      obtain ⟨p1, p2, p3⟩ := s1.hold p _ upd_same n0.2.2
      have nb := nw b (List.mem_singleton.mpr rfl)
      have ne : p ≠ b := fun z => by
        have y := nb.2
        rw [← z, upd_same] at y; cases y
      refine pairs_imp (G0 := G) R1 (sx.trans s1) (Sat_mono (Sat_bind.mp h1) (fun ms e2 h2 ads2 G2 H2 R2 s2 hk => ?_) fun _ _ z => z)
      obtain ⟨q1, q2, q3⟩ := s2.hold p _ p1 p2
      obtain ⟨b1, b2, b3⟩ := s2.hold b _ hb nb.1.2.2
      refine ⟨q1, (Sum.inr GREAT, V.ref b) :: ms.map (fun f => (Sum.inr f.1, V.int f.2)), ?_, ?_, ?_⟩
      · rw [List.map_cons, List.map_map]; rfl
      · have := congrArg List.length hk
        rw [List.length_map, List.length_map] at this
        rw [List.length_cons, List.length_map]
        omega
      · have hnd' := hnd
        rw [← hk, List.nodup_cons] at hnd'
        have em : mergeK [] ((Sum.inr GREAT, V.ref b) :: ms.map (fun f => (Sum.inr f.1, V.int f.2))) = bxK b ms := by
          show mergeK [(Sum.inr GREAT, V.ref b)] (ms.map (fun f => (Sum.inr f.1, V.int f.2))) = _
          rw [merge_box (q := b) (fun f hf kv hkv => ?_) hnd'.2]
          · rfl
          · rw [List.mem_singleton.mp hkv]
            intro e
            have e' : GREAT = f.1 := Sum.inr.inj e
            exact hnd'.1 (by rw [e']; exact List.mem_map_of_mem hf)
        rw [em]
        have n2 : New r ads2 G2 p := ⟨q3 nk_dK (p3 nk_dK n0.1), n0.2.1, q2⟩
        have R3 := R2.scratch (ho' := .dK (bxK b ms)) n2 q1
        have st : Nxt ads2 G2 H2 ads2 G2 (upd H2 p (.dK (bxK b ms))) → Nxt ads G H ads2 G2 (upd H2 p (.dK (bxK b ms))) := fun z => ((sx.trans s1).trans s2).trans z
        have sW : Nxt ads G H ads2 G2 (upd H2 p (.dK (bxK b ms))) := by
          have base := (sx.trans s1).trans s2
          refine ⟨base.sub, fun a o ea na => ?_, fun a ea => ?_⟩
          · have nea : a ≠ p := fun z => by rw [z, hp] at ea; cases ea
            rw [upd_ne nea]
            exact base.hold a o ea na
          · by_cases z : a = p
            · rw [z, upd_same] at ea; cases ea
            · rw [upd_ne z] at ea
              exact base.there a ea
        refine h2 ads2 G2 _ p [p, b] R3 sW ⟨b, rfl, ne, ?_, upd_same⟩ fun a ha => ?_
        · rw [upd_ne (Ne.symm ne)]
          exact b1
        · simp at ha
          rcases ha with rfl | rfl
          · exact ⟨n2, hp⟩
          · exact ⟨⟨b3 nk_lst nb.1.1, nb.1.2.1, b2⟩, sx.there _ nb.2⟩
  | _ => exact h1.elim
end
end TreeL
end
section
namespace TreeL
open PySem PySem.Spec PyProof.Rows L2

section
variable {X : Cx} {c : TC} {r : Ref} {W : WX} {e : Expr}
theorem PE.or {t t' : TE} (h : PE X e t) (h' : PE X e t') : PE X e (fun σ H Q => t σ H Q ∨ t' σ H Q) := ⟨fun pins s σ H Q I q => by
  rcases q with q | q
  · exact h.run pins s σ H Q I q
  · exact h'.run pins s σ H Q I q⟩
end

def callOf (n : Nat) (F : FSem) (ds : List PV) (xs : List Vl) (e : En) : RE Arg := if okCall n ds xs then (match argsOf e xs with
  | none => .bad
  | some args => match F (args ++ ds.map Arg.t) with
    | .ret a as => .ok a (putArgs xs (as.take xs.length) e)
    | .exc x as => .exc x (putArgs xs (as.take xs.length) e)
    | .bad => .bad) else .bad
def isIns (k : Nat) (env : En) (x : Vl) : Bool := match look env x with
  | some (.ins k' _) => k' == k
  | _ => false
def rDun1 (k : Nat) (F : FSem) (ok : Arg → Bool) (ea : EvE) : EvR := fun env => (ea env).bind fun x e => if isIns k e x then (callOf 1 F [] [x] e).bind fun a e => if ok a then .ok a e else .bad else .bad
def rDun2 (k : Nat) (F : FSem) (g : Arg → Option Arg) (oky : En → Vl → Bool) (ea eb : EvE) : EvR := fun env => (ea env).bind fun x e1 => (eb e1).bind fun y e => if isIns k e x && oky e y then (callOf 2 F [] [x, y] e).bind fun a e => ofO (g a) e else .bad
section
variable {X : Cx} {c : TC} {r : Ref} {W : WX} {a b e : Expr} {ea eb : EvE} {k n kc : Nat} {f : Addr} {fd : FuncData} {ps : List Str} {F : FSem} {pos p : Pos}
structure OwnM (K : PySem.W.Frag) (C : Addr) (m : Str) (f : Addr) : Prop where
  at_ : PySem.W.findIn K (.ref C) m = some (some (.ref f))
  fn : PySem.W.isFn K (.ref f) = true
def okStr : Arg → Bool
  | .t (.str _) => true
  | _ => false
def QG (c : TC) (r : Ref) (W : WX) (σ : L2.St) (ads0 : Nat → List Addr) (G0 H0 : Hp) (g : Arg → Option Arg) (Q : VK) : VK := fun v H2 => ∃ o ads' G' e2, RS c r ads' G' H2 σ e2 ∧ Nxt ads0 G0 H0 ads' G' H2 ∧ ResNew c r ads' G' H0 H2 o v ∧ ∃ o', g o = some o' ∧ (∀ ads'' G'' H'' v', RS c r ads'' G'' H'' σ e2 → Nxt ads0 G0 H0 ads'' G'' H'' → ResNew c r ads'' G'' H0 H'' o' v' → Q v' H'')
def gId : Arg → Option Arg := some
def gNot : Arg → Option Arg
  | .t (.bl b) => some (.t (.bl !b))
  | _ => none
def gBl : Arg → Option Arg
  | .t (.bl b) => some (.t (.bl b))
  | _ => none
def anyY : En → Vl → Bool := fun _ _ => true
theorem QG.id {σ : L2.St} {ads0 : Nat → List Addr} {G0 H0 H2 : Hp} {Q : VK} {v : V} (h : QG c r W σ ads0 G0 H0 gId Q v H2) : Q v H2 := by
  obtain ⟨o, ads', G', e2, R, s, rn, o', go, q⟩ := h
  cases go
  exact q ads' G' H2 v R s rn
theorem QG.bl {σ : L2.St} {ads0 : Nat → List Addr} {G0 H0 H2 : Hp} {Q : VK} {v : V} {g : Arg → Option Arg} {b' : Bool → Bool} (hg : ∀ o o', g o = some o' → ∃ b, o = .t (.bl b) ∧ o' = .t (.bl (b' b))) (h : QG c r W σ ads0 G0 H0 g Q v H2) : ∃ b, v = .bl b ∧ Q (.bl (b' b)) H2 := by
  obtain ⟨o, ads', G', e2, R, s, rn, o', go, q⟩ := h
  obtain ⟨b, rfl, rfl⟩ := hg o o' go
  have rn' : Rep c G' (.bl b) v := rn
  simp only [Rep] at rn'
  subst rn'
  exact ⟨b, rfl, q ads' G' H2 _ R s (rep_bl (c := c) G')⟩
end
end TreeL
end
section
namespace TreeL
open PySem PySem.Spec PyProof.Rows L2

def shw (t : PV) : Bool := dat 60 t && (toD t).showable && decide ((toD t).shown.length ≤ LIM) && PyData.strOk (toD t).shown
def reprF : List PV → Option Arg
  | [t] => if shw t then some (.t (.str (toD t).shown)) else none
  | _ => none
mutual
theorem noDict : ∀ t : PV, (toD t).hasDict = false
  | .non => by simp [toD, PyData.hasDict]
  | .bl _ => by simp [toD, PyData.hasDict]
  | .int _ => by simp [toD, PyData.hasDict]
  | .str _ => by simp [toD, PyData.hasDict]
  | .lst xs => by rw [toD, PyData.hasDict]; exact noDicts xs
  | .tup xs => by rw [toD, PyData.hasDict]; exact noDicts xs
  | .ins _ _ => by simp [toD, PyData.hasDict]
  | .dct _ _ => by simp [toD, PyData.hasDict]
  | .scr _ => by simp [toD, PyData.hasDict]
  | .cls _ => by simp [toD, PyData.hasDict]
  | .slc _ _ _ => by simp [toD, PyData.hasDict]
theorem noDicts : ∀ t : List PV, PyData.hasDictAll (toDs t) = false
  | [] => by simp [toDs, PyData.hasDictAll]
  | x :: xs => by rw [toDs, PyData.hasDictAll, noDict x, noDicts xs]; rfl
end
section
variable {X : Cx} {c : TC}
end

def rCls (kc : Nat) (n : Nat) (F : FSem) (ds : List PV) (el : EvA) : EvR := rCall n F ds (fun env => (el env).bind fun xs e => .ok (.tr (.cls kc) :: xs) e)
section
variable {X : Cx} {c : TC} {r : Ref} {W : WX} {F : FSem} {el : EvA} {ea : EvE} {n k kc : Nat} {ds : List PV} {f q : Addr} {mc : Value} {fd : FuncData} {ps : List Str} {x m : Str} {p pos apos : Pos} {a o : Expr} {as : List Expr}
def rMakeV (i : Nat) (kc : Nat) (n : Nat) (F : FSem) (ds : List PV) (el : EvA) : EvR := fun env => match env[i]? with
  | some (some (.t (.cls k))) => if k = kc then rMake kc n F ds el env else .bad
  | _ => .bad
end
end TreeL
end
section
namespace TreeL
open PySem PySem.Spec PyProof.Rows L2

section
variable {P : Program} {w : World} {K : PySem.W.Frag} {mg mb : Str → Option Value} {k : Nat} {g a : Addr} {fd : FuncData} {x : Str} {c : TC} {F : FSem} {t : Shared} {vs : List Value} {ns : List Int}
end
theorem room_top {k : Nat} (h : Room k callerA) : RoomG k callerA := ⟨h, rfl⟩
end TreeL
end
section
namespace TreeL
open PySem PySem.Spec PyProof.Rows L2
section
variable {prog : Program} {w : World} {A : Around} {E : Value → Shared → Prop} {s : Shared}
end
section
variable {X : Cx} {c : TC} {r : Ref} {W : WX} {tg e a b : Expr} {ea : EvE} {el : EvA} {pos p : Pos}
@[simp] def iEnumS (el : EvA) : EvI := fun env => (el env).bind fun xs e => match trees xs with
  | some [.lst ts] => .ok ⟨enumL 0 ts, .tr .non⟩ e
  | some [.tup ts] => .ok ⟨enumL 0 ts, .tr .non⟩ e
  | _ => .bad
end
end TreeL
end
section
namespace TreeL
open PySem PySem.Spec PyProof.Rows L2
def obsT (fs : List (PySem.W.Frag → Bool)) (fn : List He5.DefA) (K : PySem.W.Frag) : He.AlD := ((fs.all fun f => f K) && fn.all fun d => d.ok K, fn.map fun d => He5.fnA K (d.at_ K))
def valT (fn : List He5.DefA) : He.AlD := (true, fn.map He5.DefA.val)
def SaysT (fs : List (PySem.W.Frag → Bool)) (fn : List He5.DefA) (K : PySem.W.Frag) : Prop := obsT fs fn K = valT fn
section
variable {fs : List (PySem.W.Frag → Bool)} {fn : List He5.DefA} {K : PySem.W.Frag}
theorem SaysT.fact (c : SaysT fs fn K) (i : Nat) {f : PySem.W.Frag → Bool} (h : fs[i]? = some f := by rfl) : f K = true := by
  have c1 := (He.ba (show ((fs.all fun f => f K) && fn.all fun d => d.ok K) = true from congrArg (fun z : He.AlD => z.1) c)).1
  exact List.all_eq_true.mp c1 f (List.mem_of_getElem? h)
theorem SaysT.def_ (c : SaysT fs fn K) (i : Nat) {d : He5.DefA} (h : fn[i]? = some d := by rfl) : ∃ fd, FunD K d.name d.qual d.params d.body d.scope (d.dvs K) (d.kws K) (d.at_ K) fd := by
  have c2 := (He.ba (show ((fs.all fun f => f K) && fn.all fun d => d.ok K) = true from congrArg (fun z : He.AlD => z.1) c)).2
  have e : fn.map (fun d => He5.fnA K (d.at_ K)) = fn.map He5.DefA.val := congrArg (fun z : He.AlD => z.2) c
  have e2 : (fn.map fun d => He5.fnA K (d.at_ K))[i]? = (fn.map He5.DefA.val)[i]? := by rw [e]
  rw [List.getElem?_map, List.getElem?_map, h] at e2
  exact He5.DefA.funD (Option.some.inj e2) (List.all_eq_true.mp c2 d (List.mem_of_getElem? h))
end

def tabOf (K : PySem.W.Frag) : Addr := match K.lookup (He.ga K "law") with
  | some ⟨_, _, .func fd, _⟩ => (match fd.code with
    | .ref k => (match K.lookup k with
      | some ⟨_, _, .fields vs, _⟩ => (match vs.getD 11 .none with
        | .ref t => t
        | _ => 0)
      | _ => 0)
    | _ => 0)
  | _ => 0
def tcN (K : PySem.W.Frag) (cs : List Str) : TC := { C := fun i => He.ga K (cs.getD i Str.empty), K := K, tab := tabOf K, lam := "law.<locals>.<lambda>" }
inductive Tgt where
  | ty (n : String) | own (i : Nat)
def Tgt.val (c : TC) : Tgt → Value
  | .ty n => .type n
  | .own i => .ref (c.C i)
def Tgt.v (c : TC) : Tgt → V
  | .ty n => .ty n
  | .own i => .ref (c.C i)
theorem Tgt.cls (c : TC) : ∀ t : Tgt, ClsV (t.v c) (t.val c)
  | .ty n => .ty n
  | .own i => .own _
def kinds (ks : List Nat) : List Kd := [.non, .bl, .int, .str, .lst, .tup, .dct] ++ ks.map .ins
@[simp] def tbY (yes : List Kd) : Kd → Option Bool
  | .other => none
  | d => some (yes.contains d)
def isiB (cs : List Str) (ks : List Nat) (yes : List Kd) (ts : List Tgt) (K : PySem.W.Frag) : Bool := (kinds ks).all fun d => decide (PySem.W.kitAny K (tyVal (tcN K cs) d) (ts.map (Tgt.val (tcN K cs))) = tbY yes d)
theorem isiB_ok {cs : List Str} {ks : List Nat} {yes : List Kd} {ts : List Tgt} {K : PySem.W.Frag} (h : isiB cs ks yes ts K = true) : ∀ d b, (∀ k, d = .ins k → ks.contains k = true) → tbY yes d = some b → PySem.W.kitAny (tcN K cs).K (tyVal (tcN K cs) d) (ts.map (Tgt.val (tcN K cs))) = some b := by
  intro d b hk e
  have h1 := List.all_eq_true.mp h
  have m : d ∈ kinds ks := by
    unfold kinds
    cases d with
    | ins k => exact List.mem_append_right _ (List.mem_map_of_mem (List.contains_iff_mem.mp (hk k rfl)))
    | other => cases e
    | _ => exact List.mem_append_left _ (by simp)
  have z := of_decide_eq_true (h1 d m)
  rw [← e]
  exact z
theorem kitOne_of {K : PySem.W.Frag} {t u : Value} {b : Bool} (h : PySem.W.kitAny K t [u] = some b) : PySem.W.kitOne K t u = some b := by
  simp only [PySem.W.kitAny] at h
  cases q : PySem.W.kitOne K t u with
  | none => rw [q] at h; cases h
  | some z =>
    rw [q] at h
    cases z with
    | true => exact h
    | false => exact h
def isicB (x : Str) (K : PySem.W.Frag) : Bool := (He.Fa.cls x).ok K && (He.eqO (PySem.W.findIn K (.ref (He.ga K x)) "__class__") (some (some (.builtin "object.__class__"))) && (He.eqO (PySem.W.specialIn K (.builtin "object.__class__") "__get__") (some (some (.builtin "getset_descriptor.__get__"))) &&
  (decide (PySem.W.takesIn K (.builtin "object.__class__") = some true) && decide (PySem.W.mroIn K (He.ga K x) (.type "object") = some true))))
theorem isicB_ok {x : Str} {K : PySem.W.Frag} (h : isicB x K = true) : IsiC K (He.ga K x) := by
  obtain ⟨h1, h⟩ := He.ba h
  obtain ⟨h2, h⟩ := He.ba h
  obtain ⟨h3, h⟩ := He.ba h
  obtain ⟨h4, h5⟩ := He.ba h
  exact ⟨He.cls_ok h1, He.eqO_ok h2, He.eqO_ok h3, of_decide_eq_true h4, of_decide_eq_true h5⟩
theorem krep_tupS {c : TC} {a : Addr} {xs : List Str} (h : ∀ H, SqT c.K H a (xs.map V.str)) (g : ∀ x ∈ xs, StrG x) (n : ((xs.map V.str).length == 2) = false := by rfl) : ∀ G, Rep c G (.tup (xs.map .str)) (.ref a) := fun G => by
  simp only [Rep]
  refine ⟨a, _, rfl, SqP.all h n G, ?_⟩
  clear h n
  induction xs with
  | nil => rfl
  | cons x r ih => exact ⟨_, _, rfl, ⟨rfl, g x List.mem_cons_self⟩, ih fun y hy => g y (List.mem_cons_of_mem _ hy)⟩
theorem dv_strs {K : PySem.W.Frag} {xs : List Str} : (xs.map He.Dv.str).map (He.Dv.v K) = xs.map V.str := by
  rw [List.map_map]; rfl
def nilAt (a : PySem.W.Frag → Addr) (K : PySem.W.Frag) : Bool := match K.lookup (a K) with
  | some ⟨.type c, _, .seq its _, _⟩ => decide (c = "tuple") && its.isEmpty
  | _ => false
theorem nilAt_ok {a : PySem.W.Frag → Addr} {K : PySem.W.Frag} (h : nilAt a K = true) (H : Hp) : SqT K H (a K) [] := by
  unfold nilAt at h
  split at h
  · rename_i c od its n sl q
    obtain ⟨h1, h2⟩ := He.ba h
    have e : its = #[] := by simpa using h2
    subst e
    exact .inr ⟨_, #[], n, q, congrArg Value.type (of_decide_eq_true h1), rfl, by show 0 ≤ sizeLine; exact Nat.zero_le _, .nil⟩
  · cases h
theorem strG_by {x : Str} (h : (decide (x.length ≤ sizeLine) && PyData.strOk x) = true) : StrG x := by
  obtain ⟨h1, h2⟩ := He.ba h
  exact ⟨of_decide_eq_true h1, h2⟩
theorem Fill.of {c : TC} {K : PySem.W.Frag} {fd : FuncData} {ps : List Str} {dvs : List V} {ds : List PV} (h : ∃ dw, Vals dvs dw ∧ Binds K fd ps dw) (hr : ∀ G, RepL c G ds dvs) : Fill c K fd ps ds := by
  obtain ⟨dw, h1, h2⟩ := h
  exact ⟨dvs, dw, h1, h2, hr⟩
theorem takesW0 {X : Cx} : Takes X W0 := fun u s' ⟨a, B, sI, pins, σ, H, cls, d, e, I, nb, up, sky, na, os, ag, w⟩ => w.elim
theorem pe_gstr {X : Cx} {x z : Str} {p : Pos} (hg : Gl X x) (hm : ∃ t, X.mg x = some (.str z t)) (hd : (x == ("__debug__" : Str)) = false := by decide) : PE X (.Name x p) (tC (.str z)) := by
  obtain ⟨t, hm⟩ := hm
  exact pe_glob hg hm ⟨t, rfl⟩ hd
theorem pt_gstr {X : Cx} {c : TC} {r : Ref} {W : WX} {x z : Str} {p : Pos} (hg : Gl X x) (hm : ∃ t, X.mg x = some (.str z t)) (hs : StrG z) (hd : (x == ("__debug__" : Str)) = false := by decide) : PE X (.Name x p) (TEof c r W (eCon (.str z))) := pt_con (pe_gstr hg hm hd) fun _ => by
  simp only [Rep]; exact ⟨trivial, hs⟩
theorem pt_gref {X : Cx} {c : TC} {r : Ref} {W : WX} {x : Str} {t : PV} {a : Addr} {p : Pos} (hg : Gl X x) (hm : X.mg x = some (.ref a)) (hr : ∀ G, Rep c G t (.ref a)) (hd : (x == ("__debug__" : Str)) = false := by decide) : PE X (.Name x p) (TEof c r W (eCon t)) := pt_con (pe_glob (v := .ref a) (u := .ref a) hg hm rfl hd) hr
end TreeL
end
section
namespace TreeL
open PySem PySem.Spec PyProof.Rows L2
theorem npin {r : Ref} {pn : List Nat} {i : Nat} (hp : r.pins.map Prod.fst = pn) (h : pn.contains i = false := by rfl) : (r.pins.map Prod.fst).contains i = false := by rw [hp]; exact h
theorem npins {r : Ref} {pn js : List Nat} (hp : r.pins.map Prod.fst = pn) (h : (js.all fun j => !pn.contains j) = true := by rfl) : ∀ j ∈ js, (r.pins.map Prod.fst).contains j = false := fun j hj => by
  rw [hp]
  have := List.all_eq_true.mp h j hj
  simpa using this
theorem subl {us js : List Nat} (h : (us.all fun j => js.contains j) = true := by rfl) : ∀ j ∈ us, j ∈ js := fun j hj => List.contains_iff_mem.mp (List.all_eq_true.mp h j hj)
def locB (sc : Scope) (x : Str) : Bool := match sc.names.lookup x with
  | some .local => true
  | some .cell => true
  | _ => false
theorem locOf {sc : Scope} {x : Str} (h : locB sc x = true := by rfl) : L2.Loc sc x := by
  unfold locB at h
  unfold L2.Loc
  split at h
  · rename_i e; exact .inl e
  · rename_i e; exact .inr e
  · cases h
section
variable {X : Cx} {c : TC} {r : Ref} {W : WX} {k : Nat}
theorem u64 (hr : RoomG k X.A) : X.A.units + 64 < cLine := by have := hr.rm.un; omega
theorem u65 (hr : RoomG k X.A) : X.A.units + 65 < cLine := by have := hr.rm.un; omega
theorem u1 (hr : RoomG k X.A) : X.A.units + 1 < cLine := by have := hr.rm.un; omega
end
@[simp] def tTst (er : EvR) : EvT := fun env => (er env).bind fun a e => match a with
  | .t (.bl b) => .ok b e
  | _ => .bad
section
variable {X : Cx} {c : TC} {r : Ref} {W : WX} {F : FSem} {ea eb : EvE} {k kc : Nat} {f : Addr} {fd : FuncData} {ps : List Str} {pos : Pos} {a b : Expr}
end
end TreeL
end
section
namespace TreeL
open PySem PySem.Spec PyProof.Rows L2
inductive AllP {α : Type} (p : α → Prop) : List α → Prop where
  | nil : AllP p []
  | cons {x : α} {xs : List α} (h : p x) (r : AllP p xs) : AllP p (x :: xs)
theorem AllP.all {α : Type} {p : α → Prop} : ∀ {xs : List α}, AllP p xs → ∀ x ∈ xs, p x
  | _, .cons h r, x, m => by
    rcases List.mem_cons.mp m with e | e
    · rw [e]; exact h
    · exact r.all x e
theorem tgtAll {c : TC} : ∀ ts : List Tgt, Paired ClsV (ts.map (Tgt.v c)) (ts.map (Tgt.val c))
  | [] => .nil
  | t :: ts => .cons (t.cls c) (tgtAll ts)
theorem strsG {xs : List Str} (h : (xs.all fun x => decide (x.length ≤ sizeLine) && PyData.strOk x) = true) : ∀ x ∈ xs, StrG x := fun x hx => strG_by (List.all_eq_true.mp h x hx)
theorem pe_bltT {X : Cx} {x : Str} {T : String} {p : Pos} (hg : Gl X x) (hm : X.mg x = none) (hv : bootBuiltins x = some (.type T)) (hn : x ≠ "__name__" := by decide) (hd : (x == ("__debug__" : Str)) = false := by decide) : PE X (.Name x p) (tC (.ty T)) := pe_bltn hg hm hv rfl hn hd
theorem repl_nil {c : TC} {G : Hp} : RepL c G [] [] := rfl
theorem repl_cons {c : TC} {G : Hp} {t : PV} {ts : List PV} {v : V} {vs : List V} (h : Rep c G t v) (r : RepL c G ts vs) : RepL c G (t :: ts) (v :: vs) := ⟨v, vs, rfl, h, r⟩
theorem rep_tup0 {c : TC} {G : Hp} {a : Addr} (h : ∀ H, SqT c.K H a []) : Rep c G (.tup []) (.ref a) := by
  simp only [Rep]
  exact ⟨a, [], rfl, SqP.all h rfl G, rfl⟩
theorem rep_blC {c : TC} {G : Hp} {b : Bool} : Rep c G (.bl b) (.bl b) := by simp [Rep]
theorem lenT {c : TC} {ts : List Tgt} (h : decide (ts.length ≤ sizeLine) = true) : (ts.map (Tgt.v c)).length ≤ sizeLine := by rw [List.length_map]; exact of_decide_eq_true h
section
variable {X : Cx} {c : TC} {r : Ref} {W : WX} {F : FSem} {el : EvA} {ea : EvE} {n k kc : Nat} {ds : List PV} {f q : Addr} {mc : Value} {fd : FuncData} {ps : List Str} {x m : Str} {p pos apos : Pos} {a o : Expr} {as : List Expr}
end
end TreeL
end
section
namespace TreeL
open PySem PySem.Spec PyProof.Rows L2
theorem fDef_of {n : Nat} {pn : List Nat} {body : EvS} {args : List Arg} (h : okArgs pn 0 args = true) : fDef n pn body args = (match body (env0 n args) with
  | .nx e => .ret (.t .non) (upArgs args e)
  | .rt a e => .ret a (upArgs args e)
  | .exc x e => .exc x (upArgs args e)
  | _ => .bad) := by unfold fDef; rw [if_pos h]; try (cases body (env0 n args) <;> rfl)
theorem loopF_sat {g : Tg} {body : EvS} {al : En → Bool} {k : SK} (I : List PV → En → Prop) (hal : ∀ ts env, I ts env → al env = true) (hn : ∀ env, I [] env → k.nx env)
    (hs : ∀ t ts env, I (t :: ts) env → ∃ e1, g t env = some e1 ∧ (body e1).Sat { k with nx := I ts, ct := I ts, bk := k.nx }) : ∀ (ts : List PV) (env : En), I ts env → (loopF g body al ts env).Sat k
  | [], env, h => by simp [loopF, hal _ _ h, SO.Sat, hn _ h]
  | t :: ts, env, h => by
    obtain ⟨e1, q1, q2⟩ := hs t ts env h
    rw [loopF, if_pos (hal _ _ h), q1]
    simp only
    cases q : body e1 with
    | nx e2 => rw [q] at q2; exact loopF_sat I hal hn hs ts e2 q2
    | ct e2 => rw [q] at q2; exact loopF_sat I hal hn hs ts e2 q2
    | bk e2 => rw [q] at q2; exact q2
    | rt t e2 => rw [q] at q2; exact q2
    | exc x e2 => rw [q] at q2; exact q2
    | bad => rw [q] at q2; exact q2
theorem sLoop_sat {et : EvT} {body : EvS} {k : SK} (I : Nat → En → Prop)
    (hs : ∀ m env, I m env → ∃ b e, et env = .ok b e ∧ (if b = true then (body e).Sat { k with nx := fun e' => ∃ m', m' < m ∧ I m' e', ct := fun e' => ∃ m', m' < m ∧ I m' e', bk := k.nx } else k.nx e)) : ∀ (n m : Nat) (env : En), m < n → I m env → (sLoop et body n env).Sat k
  | 0, m, env, h, _ => absurd h (Nat.not_lt_zero _)
  | n + 1, m, env, h, hi => by
    obtain ⟨b, e, q1, q2⟩ := hs m env hi
    rw [sLoop, q1]
    simp only [RE.so]
    cases b with
    | false => exact q2
    | true =>
      rw [if_pos rfl] at q2
      rw [if_pos rfl]
      cases q : body e with
      | nx e2 => rw [q] at q2; obtain ⟨m', l, i⟩ := q2; exact sLoop_sat I hs n m' e2 (by omega) i
      | ct e2 => rw [q] at q2; obtain ⟨m', l, i⟩ := q2; exact sLoop_sat I hs n m' e2 (by omega) i
      | bk e2 => rw [q] at q2; exact q2
      | rt t e2 => rw [q] at q2; exact q2
      | exc x e2 => rw [q] at q2; exact q2
      | bad => rw [q] at q2; exact q2
theorem sat_nx {s : SO} {P : En → Prop} (h : s.Sat ⟨P, fun _ _ => False, fun _ => False, fun _ => False, fun _ _ => False⟩) : ∃ e, s = .nx e ∧ P e := by
  cases s with
  | nx e => exact ⟨e, rfl, h⟩
  | _ => exact h.elim
structure Box where
  great : List Int
  now : Int
  mixed : Int
  turn : Int
def Box.os (b : Box) : OS := .boxD b.great [("now", b.now), ("mixed", b.mixed), ("turn", b.turn)]
structure Box.Ok (b : Box) : Prop where
  great : ∀ x ∈ b.great, 0 < x
  len : b.great.length ≤ 100
  now : 0 ≤ b.now
  mixed : 0 ≤ b.mixed ∧ b.mixed ≤ 2 ^ 31
  turn : 0 ≤ b.turn
def IsBox (n : Int) (o : OS) : Prop := ∃ b : Box, o = b.os ∧ b.Ok ∧ b.turn ≤ n
theorem IsBox.mono {n m : Int} {o : OS} (h : IsBox n o) (l : n ≤ m) : IsBox m o := by
  obtain ⟨b, e, k, t⟩ := h
  exact ⟨b, e, k, by omega⟩
theorem log2_lt {n k : Nat} (h : n < 2 ^ k) (hk : 0 < k) : n.log2 < k := by
  by_cases z : n = 0
  · subst z; simpa using hk
  · exact (Nat.log2_lt z).mpr h
theorem mulA_ok {i j : Int} (h1 : i.natAbs < 2 ^ 100000) (h2 : j.natAbs < 2 ^ 100000) : mulA (.int i) (.int j) = some (.t (.int (i * j))) := by
  have a := log2_lt h1 (by decide)
  have b := log2_lt h2 (by decide)
  simp only [mulA]
  rw [if_pos (by omega)]
namespace A
def eb_draw : EvS := (sBput 0 "now" (eBpop 0))
def while_draw : EvS := sLoop (tAn (tBl (eBin eqP (eBget 0 "now") (eCon (.int 0)))) (tBl (eBin gtP (eBlen 0) (eCon (.int 0))))) eb_draw 1000
def if_draw : EvS := (sIf (tBl (eBin gtP (eBget 0 "now") (eCon (.int 0)))) (sSeq (sAsg (eBin modP (eRes (rBui intF (aCons (eBget 0 "now") aNil))) (eVar 1)) (gNm 2))
  (sSeq (sBput 0 "now" (eBin fdivP (eBget 0 "now") (eVar 1)))
  (sRet [0, 1] (eVar 2)))) sSkip)
def rest_draw : EvS := (sSeq (sBput 0 "turn" (eRes (rBin addA (eBget 0 "turn") (eCon (.int 1)))))
  (sSeq (sAsg (eBin modP (eRes (rBui intF (aCons (eRes (rBin addA (eRes (rBin mulA (eBget 0 "mixed") (eCon (.int 48271)))) (eRes (rBin mulA (eBget 0 "turn") (eCon (.int 69621)))))) aNil))) (eCon (.int 2147483629))) (gNm 3))
  (sSeq (sAsg (eBin modP (eRes (rBui intF (aCons (eRes (rBin addA (eRes (rBin mulA (eVar 3) (eVar 3))) (eRes (rBin mulA (eBget 0 "turn") (eCon (.int 7919)))))) aNil))) (eCon (.int 2147483563))) (gNm 4))
  (sSeq (sBput 0 "mixed" (eRes (rBin addA (eBin modP (eRes (rBui intF (aCons (eRes (rBin addA (eRes (rBin mulA (eVar 4) (eCon (.int 40692)))) (eVar 3))) aNil))) (eCon (.int 2147483647))) (eCon (.int 1)))))
  (sRet [0, 1] (eBin modP (eRes (rBui intF (aCons (eRes (rBin addA (eBin fdivP (eVar 4) (eCon (.int 4096))) (eVar 3))) aNil))) (eVar 1)))))))
def ev_draw : EvS := sSeq while_draw (sSeq if_draw rest_draw)
def F_draw : FSem := fDef 5 [0, 1] ev_draw
theorem d1 : ((Str.ofString "now") = GREAT) = False := by simp only [eq_iff_iff, iff_false]; decide +kernel
theorem d2 : ((Str.ofString "mixed") = GREAT) = False := by simp only [eq_iff_iff, iff_false]; decide +kernel
theorem d3 : ((Str.ofString "turn") = GREAT) = False := by simp only [eq_iff_iff, iff_false]; decide +kernel
theorem b1 : ((Str.ofString "mixed") == (Str.ofString "now")) = false := by decide +kernel
theorem b2 : ((Str.ofString "turn") == (Str.ofString "now")) = false := by decide +kernel
theorem b3 : ((Str.ofString "turn") == (Str.ofString "mixed")) = false := by decide +kernel
theorem e1 : ((Str.ofString "now") = (Str.ofString "mixed")) = False := by simp only [eq_iff_iff, iff_false]; decide +kernel
theorem e2 : ((Str.ofString "now") = (Str.ofString "turn")) = False := by simp only [eq_iff_iff, iff_false]; decide +kernel
theorem e3 : ((Str.ofString "mixed") = (Str.ofString "turn")) = False := by simp only [eq_iff_iff, iff_false]; decide +kernel
theorem e4 : ((Str.ofString "mixed") = (Str.ofString "now")) = False := by simp only [eq_iff_iff, iff_false]; decide +kernel
theorem e5 : ((Str.ofString "turn") = (Str.ofString "now")) = False := by simp only [eq_iff_iff, iff_false]; decide +kernel
theorem e6 : ((Str.ofString "turn") = (Str.ofString "mixed")) = False := by simp only [eq_iff_iff, iff_false]; decide +kernel
@[simp] theorem bget_now (b : Box) (r : En) : eBget 0 "now" (some (.ow b.os) :: r) = .ok (.tr (.int b.now)) (some (.ow b.os) :: r) := by
  simp [eBget, Box.os, d1]
@[simp] theorem bget_mixed (b : Box) (r : En) : eBget 0 "mixed" (some (.ow b.os) :: r) = .ok (.tr (.int b.mixed)) (some (.ow b.os) :: r) := by
  simp [eBget, Box.os, d2, List.lookup, b1]
@[simp] theorem bget_turn (b : Box) (r : En) : eBget 0 "turn" (some (.ow b.os) :: r) = .ok (.tr (.int b.turn)) (some (.ow b.os) :: r) := by
  simp [eBget, Box.os, d3, List.lookup, b2, b3]
@[simp] theorem blen_os (b : Box) (r : En) : eBlen 0 (some (.ow b.os) :: r) = .ok (.tr (.int b.great.length)) (some (.ow b.os) :: r) := rfl
theorem bpop_os (b : Box) (r : En) (x : Int) (h : b.great[b.great.length - 1]? = some x) : eBpop 0 (some (.ow b.os) :: r) = .ok (.tr (.int x)) (some (.ow { b with great := b.great.dropLast }.os) :: r) := by
  simp [eBpop, Box.os, h]
@[simp] theorem bput_now {ea : EvE} {env : En} {b : Box} {r : En} {n : Int} (h : ea env = .ok (.tr (.int n)) (some (.ow b.os) :: r)) : sBput 0 "now" ea env = .nx (some (.ow { b with now := n }.os) :: r) := by
  simp [sBput, h, Box.os, d1, updI, e4, e5]
@[simp] theorem bput_mixed {ea : EvE} {env : En} {b : Box} {r : En} {n : Int} (h : ea env = .ok (.tr (.int n)) (some (.ow b.os) :: r)) : sBput 0 "mixed" ea env = .nx (some (.ow { b with mixed := n }.os) :: r) := by
  simp [sBput, h, Box.os, d2, updI, e1, e6, List.lookup, b1]
@[simp] theorem bput_turn {ea : EvE} {env : En} {b : Box} {r : En} {n : Int} (h : ea env = .ok (.tr (.int n)) (some (.ow b.os) :: r)) : sBput 0 "turn" ea env = .nx (some (.ow { b with turn := n }.os) :: r) := by
  simp [sBput, h, Box.os, d3, updI, e2, e3, List.lookup, b2, b3]
theorem while_ok (r : En) : ∀ (k : Nat) (b : Box), b.great.length < k → b.Ok → ∃ b' : Box, sLoop (tAn (tBl (eBin eqP (eBget 0 "now") (eCon (.int 0)))) (tBl (eBin gtP (eBlen 0) (eCon (.int 0))))) eb_draw k (some (.ow b.os) :: r) = .nx (some (.ow b'.os) :: r) ∧ b'.Ok ∧ b'.turn = b.turn ∧ b'.mixed = b.mixed
  | 0, b, h, _ => absurd h (Nat.not_lt_zero _)
  | k + 1, b, h, ok => by
    simp only [sLoop]
    by_cases hn : b.now = 0
    · by_cases hg : b.great = []
      · refine ⟨b, ?_, ok, rfl, rfl⟩
        simp [eqP, dat, peq, hn, hg]
      · have hl : 0 < b.great.length := List.length_pos_iff.mpr hg
        obtain ⟨x, hx⟩ : ∃ x, b.great[b.great.length - 1]? = some x := ⟨b.great[b.great.length - 1], List.getElem?_eq_getElem (by omega)⟩
        have mx : x ∈ b.great := List.mem_of_getElem? hx
        have ok2 : ({ b with great := b.great.dropLast, now := x } : Box).Ok := ⟨fun y hy => ok.great y ((List.dropLast_sublist _).subset hy), by have := ok.len; simp; omega, Int.le_of_lt (ok.great x mx), ok.mixed, ok.turn⟩
        obtain ⟨b', q1, q2, q3, q4⟩ := while_ok r k { b with great := b.great.dropLast, now := x } (by simp; omega) ok2
        refine ⟨b', ?_, q2, q3, q4⟩
        rw [← q1]
        have pz := bput_now (ea := eBpop 0) (bpop_os b r x hx)
        simp [eqP, dat, peq, hn, hl, eb_draw, pz]
    · refine ⟨b, ?_, ok, rfl, rfl⟩
      simp [eqP, dat, peq, hn]
theorem abs_lt {i : Int} {k : Nat} (h0 : 0 ≤ i) (h1 : i < (k : Int)) : i.natAbs < k := by omega
theorem big {k : Nat} (h : k ≤ 2 ^ 64) : k ≤ 2 ^ 100000 := Nat.le_trans h (Nat.pow_le_pow_right (by decide) (by decide))
theorem mul_ok {i j : Int} (h0 : 0 ≤ i) (h1 : i < 2 ^ 64) (h2 : 0 ≤ j) (h3 : j < 2 ^ 64) : mulA (.int i) (.int j) = some (.t (.int (i * j))) :=
  mulA_ok (Nat.lt_of_lt_of_le (abs_lt (k := 2 ^ 64) h0 (by simpa using h1)) (big (Nat.le_refl _))) (Nat.lt_of_lt_of_le (abs_lt (k := 2 ^ 64) h2 (by simpa using h3)) (big (Nat.le_refl _)))
theorem draw_spec {n : Int} {o : OS} {m : Int} (h : IsBox n o) (hn : n ≤ 2 ^ 40) (h0 : 0 < m) (hm : m < 2 ^ 40) : ∃ (r : Int) (o' : OS), F_draw [.ow o, .t (.int m)] = .ret (.t (.int r)) [.ow o', .t (.int m)] ∧ 0 ≤ r ∧ r < m ∧ IsBox (n + 1) o' := by
  obtain ⟨b, rfl, ok, ht⟩ := h
  obtain ⟨b1, w1, ok1, t1, m1⟩ := while_ok [some (.t (.int m)), none, none, none] 1000 b (by have := ok.len; omega) ok
  have lm : m.natAbs.log2 < 9000 := Nat.lt_of_lt_of_le (log2_lt (k := 40) (by omega) (by decide)) (by decide)
  by_cases hp : 0 < b1.now
  · refine ⟨b1.now % m, ({ b1 with now := b1.now / m } : Box).os, ?_, Int.emod_nonneg _ (by omega), Int.emod_lt_of_pos _ h0, _, rfl, ⟨ok1.great, ok1.len, Int.ediv_nonneg ok1.now (by omega), ok1.mixed, ok1.turn⟩, by show b1.turn ≤ _; omega⟩
    simp only [F_draw, fDef, ev_draw, while_draw, sSeq, okArgs, env0]
    have p1 : sBput 0 "now" (eBin fdivP (eBget 0 "now") (eVar 1)) [some (.ow b1.os), some (.t (.int m)), some (.t (.int (b1.now % m))), none, none] = .nx [some (.ow ({ b1 with now := b1.now / m } : Box).os), some (.t (.int m)), some (.t (.int (b1.now % m))), none, none] := bput_now (by simp [h0, lm])
    simp [w1, if_draw, intF, hp, h0, p1]
  · have hz : b1.now = 0 := by have := ok1.now; omega
    have ht2 : b1.turn + 1 ≤ 2 ^ 40 + 1 := by omega
    have t0 : 0 ≤ b1.turn := ok1.turn
    have p0 := mul_ok (i := b1.mixed) (j := 48271) ok1.mixed.1 (by have := ok1.mixed.2; omega) (by decide) (by decide)
    have p1 := mul_ok (i := b1.turn + 1) (j := 69621) (by omega) (by omega) (by decide) (by decide)
    obtain ⟨a1, ha1⟩ : ∃ a, a = (b1.mixed * 48271 + (b1.turn + 1) * 69621) % 2147483629 := ⟨_, rfl⟩
    have ra : 0 ≤ a1 ∧ a1 < 2147483629 := by rw [ha1]; exact ⟨Int.emod_nonneg _ (by decide), Int.emod_lt_of_pos _ (by decide)⟩
    have p2 := mul_ok (i := a1) (j := a1) ra.1 (by omega) ra.1 (by omega)
    have p3 := mul_ok (i := b1.turn + 1) (j := 7919) (by omega) (by omega) (by decide) (by decide)
    obtain ⟨a2, ha2⟩ : ∃ a, a = (a1 * a1 + (b1.turn + 1) * 7919) % 2147483563 := ⟨_, rfl⟩
    have rb : 0 ≤ a2 ∧ a2 < 2147483563 := by rw [ha2]; exact ⟨Int.emod_nonneg _ (by decide), Int.emod_lt_of_pos _ (by decide)⟩
    have p4 := mul_ok (i := a2) (j := 40692) rb.1 (by omega) (by decide) (by decide)
    obtain ⟨a3, ha3⟩ : ∃ a, a = (a2 * 40692 + a1) % 2147483647 + 1 := ⟨_, rfl⟩
    have rc : 0 ≤ a3 ∧ a3 ≤ 2 ^ 31 := by
      have x1 := Int.emod_nonneg (a2 * 40692 + a1) (b := 2147483647) (by decide)
      have x2 := Int.emod_lt_of_pos (a2 * 40692 + a1) (b := 2147483647) (by decide)
      omega
    have l4 : Nat.log2 4096 < 9000 := by decide +kernel
    refine ⟨(a2 / 4096 + a1) % m, ({ b1 with turn := b1.turn + 1, mixed := a3 } : Box).os, ?_, Int.emod_nonneg _ (by omega), Int.emod_lt_of_pos _ h0, _, rfl, ⟨ok1.great, ok1.len, ok1.now, rc, by show 0 ≤ b1.turn + 1; omega⟩, by show b1.turn + 1 ≤ _; omega⟩
    simp only [F_draw, fDef, ev_draw, while_draw, sSeq, okArgs, env0]
    have q1 : sBput 0 "turn" (eRes (rBin addA (eBget 0 "turn") (eCon (.int 1)))) [some (.ow b1.os), some (.t (.int m)), none, none, none] = .nx [some (.ow ({ b1 with turn := b1.turn + 1 } : Box).os), some (.t (.int m)), none, none, none] := bput_turn (by simp [addA])
    have q2 : sBput 0 "mixed" (eRes (rBin addA (eBin modP (eRes (rBui intF (aCons (eRes (rBin addA (eRes (rBin mulA (eVar 4) (eCon (.int 40692)))) (eVar 3))) aNil))) (eCon (.int 2147483647))) (eCon (.int 1)))) [some (.ow ({ b1 with turn := b1.turn + 1 } : Box).os), some (.t (.int m)), none, some (.t (.int a1)), some (.t (.int a2))] =
      .nx [some (.ow ({ b1 with turn := b1.turn + 1, mixed := a3 } : Box).os), some (.t (.int m)), none, some (.t (.int a1)), some (.t (.int a2))] := bput_mixed (b := { b1 with turn := b1.turn + 1 }) (by simp [addA, p4, intF, ha3])
    simp [w1, if_draw, intF, hp, rest_draw, q1, addA, p0, p1, ← ha1, p2, p3, ← ha2, q2, l4, h0]
end A
end TreeL
end
section
namespace TreeL
open PySem PySem.Spec PyProof.Rows L2
theorem cutP_map {α : Type} (f : α → PV) (xs : List α) (lo hi : Option Int) : cutP (xs.map f) lo hi = ((xs.drop (HT.sIx xs.length 0 lo)).take (HT.sIx xs.length xs.length hi - HT.sIx xs.length 0 lo)).map f := by
  unfold cutP
  rw [List.length_map, List.map_take, List.map_drop]
theorem intsP_map (xs : List Int) : intsP (xs.map PV.int) = some xs := by
  induction xs with
  | nil => rfl
  | cons x r ih => simp [intsP, ih]
theorem intsP_rev (xs : List Int) : intsP (xs.map PV.int).reverse = some xs.reverse := by rw [← List.map_reverse]; exact intsP_map _
namespace A
def absI (i : Int) : Int := if i < 0 then -i else i
end A
end TreeL
end
section
namespace TreeL
open PySem PySem.Spec PyProof.Rows L2
theorem atI_in {α : Type} {xs : List α} {r : Int} (h0 : 0 ≤ r) (h1 : r < xs.length) : ∃ x, atI xs r = some x ∧ x ∈ xs := by
  have hl : r.toNat < xs.length := by omega
  refine ⟨xs[r.toNat], ?_, List.getElem_mem hl⟩
  have e : r = (r.toNat : Int) := by omega
  exact (congrArg (atI xs) e).trans (atI_nat (List.getElem?_eq_getElem hl))
theorem erase_perm {α : Type} : ∀ (xs : List α) (i : Nat) (h : i < xs.length), (xs[i] :: xs.eraseIdx i).Perm xs
  | [], i, h => absurd h (Nat.not_lt_zero _)
  | x :: xs, 0, _ => by simp
  | x :: xs, i + 1, h => by
    have hi : i < xs.length := by simpa using h
    have := erase_perm xs i hi
    simp only [List.getElem_cons_succ, List.eraseIdx_cons_succ]
    exact (List.Perm.swap _ _ _).trans (this.cons x)
theorem rangeL_len {lo : Int} {n : Nat} : (rangeL lo n).length = n := by simp [rangeL]
namespace A
def ev_pick : EvS := (sRet [0, 1] (eBin ixP (eVar 1) (eRes (rCall 2 F_draw [] (aCons (eVar 0) (aCons (eRes (rBui lenF (aCons (eVar 1) aNil))) aNil))))))
def F_pick : FSem := fDef 2 [0, 1] ev_pick
theorem pick_spec {n : Int} {o : OS} {xs : List PV} (h : IsBox n o) (hn : n ≤ 2 ^ 40) (h0 : 0 < xs.length) (hm : xs.length < 2 ^ 40) : ∃ x o', F_pick [.ow o, .t (.lst xs)] = .ret (.t x) [.ow o', .t (.lst xs)] ∧ x ∈ xs ∧ IsBox (n + 1) o' := by
  obtain ⟨r, o', q, r0, r1, hb⟩ := draw_spec (m := xs.length) h hn (by omega) (by omega)
  obtain ⟨x, qx, hx⟩ := atI_in r0 r1
  refine ⟨x, o', ?_, hx, hb⟩
  simp [F_pick, fDef, ev_pick, lenF, q, ixP, qx]
def eb_mixed : EvS := (sEx (eMut "list" appendO 3 (aCons (eMut "list" popO 2 (aCons (eRes (rCall 2 F_draw [] (aCons (eVar 0) (aCons (eRes (rBui lenF (aCons (eVar 2) aNil))) aNil)))) aNil)) aNil)))
def ev_mixed : EvS := (sSeq (sPar 2 3 (bCons (rOwn (fRes (rBui listF (aCons (eVar 1) aNil)))) (bCons (rOwn (fLst aNil)) bNil)))
  (sSeq (sLoop (tBl (eBin neP (eVar 2) (eLst aNil))) eb_mixed 1000)
  (sRet [0, 1] (eVar 3))))
def F_mixed : FSem := fDef 4 [0, 1] ev_mixed
theorem mixed_spec {n : Int} {o : OS} {xs : List PV} (h : IsBox n o) (hn : n + xs.length ≤ 2 ^ 40) (hm : xs.length < 1000) (hd : ∀ x ∈ xs, dat 63 x = true) :
    ∃ ys o', F_mixed [.ow o, .t (.lst xs)] = .ret (.ow (.lst ys)) [.ow o', .t (.lst xs)] ∧ ys.Perm xs ∧ IsBox (n + xs.length) o' := by
  have lp : ∃ e, sLoop (tBl (eBin neP (eVar 2) (eLst aNil))) eb_mixed 1000 [some (.ow o), some (.t (.lst xs)), some (.ow (.lst xs)), some (.ow (.lst []))] = .nx e ∧
      ∃ o' ys, e = [some (.ow o'), some (.t (.lst xs)), some (.ow (.lst [])), some (.ow (.lst ys))] ∧ ys.Perm xs ∧ IsBox (n + xs.length) o' := by
    refine sat_nx ?_
    refine sLoop_sat (fun m e => ∃ o' ls ys, e = [some (.ow o'), some (.t (.lst xs)), some (.ow (.lst ls)), some (.ow (.lst ys))] ∧ (ys ++ ls).Perm xs ∧ m = ls.length ∧ IsBox (n + ys.length) o') ?_ 1000 xs.length _ hm ⟨o, xs, [], rfl, by simp, rfl, by simpa using h⟩
    rintro m env ⟨o', ls, ys, rfl, hp, rfl, hb⟩
    have hdl : datL 63 ls = true := by
      rw [datL_all, List.all_eq_true]
      exact fun x hx => hd x (hp.subset (List.mem_append_right _ hx))
    have hlen := hp.length_eq
    rw [List.length_append] at hlen
    cases ls with
    | nil =>
      refine ⟨false, _, by simp [neP, dat, datL, peq, peqL]; rfl, ?_⟩
      simp at hp hlen
      exact ⟨o', ys, rfl, hp, by rw [← hlen]; exact hb⟩
    | cons l ls =>
      have hd1 : dat 63 l = true := hd l (hp.subset (List.mem_append_right _ List.mem_cons_self))
      have hd2 : datL 63 ls = true := by rw [datL_all, List.all_eq_true] at hdl ⊢; exact fun x hx => hdl x (List.mem_cons_of_mem _ hx)
      refine ⟨true, _, by simp [neP, dat, hd1, hd2, datL, peq, peqL]; rfl, ?_⟩
      rw [if_pos rfl]
      rw [List.length_cons] at hlen
      obtain ⟨r, o2, q, r0, r1, hb2⟩ := draw_spec (m := (l :: ls).length) hb (by omega) (by simp only [List.length_cons]; omega) (by simp only [List.length_cons]; omega)
      have hr : r.toNat < (l :: ls).length := by omega
      have hsi : seqIndex? r (ls.length + 1) = some r.toNat := by
        rw [List.length_cons] at r1
        have h1 : ¬ r < 0 := by omega
        simp only [seqIndex?, if_neg h1]
        have h2 : r < (((ls.length + 1 : Nat)) : Int) := r1
        have h3 : r < (ls.length : Int) + 1 := by omega
        simp [r0, h3]
      have hx : (l :: ls)[r.toNat]? = some (l :: ls)[r.toNat] := List.getElem?_eq_getElem hr
      have hbd : -9223372036854775808 ≤ r ∧ r < 9223372036854775808 := by rw [List.length_cons] at r1; omega
      have hyl : ys.length < LIM := by unfold LIM; omega
      have q' : F_draw [.ow o', .t (.int ((ls.length : Int) + 1))] = .ret (.t (.int r)) [.ow o2, .t (.int ((ls.length : Int) + 1))] := by simpa using q
      simp [eb_mixed, eMut, isTyO, lenF, q', popO, hbd, hsi, hx, appendO, hyl, SO.Sat]
      have pe : ((l :: ls)[r.toNat] :: (l :: ls).eraseIdx r.toNat).Perm (l :: ls) := erase_perm _ _ hr
      have le : ((l :: ls).eraseIdx r.toNat).length = ls.length := by rw [List.length_eraseIdx, if_pos hr]; simp
      refine ⟨_, ?_, _, _, _, ⟨rfl, rfl, rfl⟩, ?_, rfl, ?_⟩
      · rw [le]; omega
      · rw [List.append_assoc]
        exact (List.Perm.append_left ys pe).trans hp
      · rw [List.length_append, List.length_singleton]
        have : n + ((ys.length + 1 : Nat) : Int) = n + ys.length + 1 := by omega
        rw [this]; exact hb2
  obtain ⟨e, lp1, o', ys, rfl, hp, hb⟩ := lp
  refine ⟨ys, o', ?_, hp, hb⟩
  simp [F_mixed, fDef, ev_mixed, listF, lp1]
end A
end TreeL
end
section
namespace TreeX
open PySem PySem.Spec PySem.W PySem.Calls PyProof.Rows Builtin Builtin.ObjectAttr
def shapeOf : List Stmt → Option (Str × Str × Str)
  | [.Expr (.Call (.Attribute (.Call (.Name su _) [] [] _) ini a3) [.Name p _] [] a5) _, .Assign [.Attribute (.Name se _) f _] (.Name q _) _] => if su = "super" ∧ ini = "__init__" ∧ q = p ∧ (a3.endLine == a5.line) = true then some (se, p, f) else none
  | _ => none
theorem shape_is {body : List Stmt} {se p f : Str} (h : shapeOf body = some (se, p, f)) : ∃ a1 a2 a3 a4 a5 a6 b1 b2 b3 b4, (a3.endLine == a5.line) = true ∧ body = [.Expr (.Call (.Attribute (.Call (.Name "super" a1) [] [] a2) "__init__" a3) [.Name p a4] [] a5) a6, .Assign [.Attribute (.Name se b1) f b2] (.Name p b3) b4] := by
  unfold shapeOf at h
  split at h
  · split at h
    · rename_i z
      obtain ⟨rfl, rfl, rfl, zz⟩ := z
      cases h
      exact ⟨_, _, _, _, _, _, _, _, _, _, zz, rfl⟩
    · cases h
  · cases h
abbrev recX (C t : Addr) (d : Option Addr) : Obj := { cls := .ref C, dict := d, data := .fields #[.ref t, .none, .none, .none, .bool false, .none] }
section
variable {prog : Program} {w : World} {A : Around} {E : Value → Shared → Prop} {h : Heap} {g : Array GenState} {d : Drawn} {t : Nat} {os : OsState} {K : Frag} {B i newId : String} {bmB : List Value} {C e u t0 : Addr}
theorem call_wrap {rest : List Value} {Q : Value → Shared → Prop} (X : K.In h) (FB : ExcBaseFacts B newId i bmB) (q : excInitIn K C bmB newId = true) (hu : h.get? u = some (kxs_mw i e)) (he : h.get? e = some (recX C t0 none)) (hz : rest.length ≤ sizeLine)
    (fin : ∀ h' t1, (∀ b o, b ≠ e → h.get? b = some o → h'.get? b = some o) → h'.get? e = some (recX C t1 none) → Q .none ⟨h', g, d, t, os⟩) : wpAny (model prog w) A (call (.ref u) rest) Q E ⟨h, g, d, t, os⟩ := by
  obtain ⟨nm, N', qn, bs, bm, hdct, sn, sub, ab, col, dd, k0, k1, k2, k3, k5, hC, hT⟩ := excInit_of X q
  refine wpAny_call (codeAny_of_tree (show wpAny _ A.in1 (callAny (.ref u) ⟨rest, []⟩) _ _ _ from ?_))
  unfold callAny
  refine wpAny_bind (wpAny_load hu ?_)
  dsimp only [kxs_mw]
  rw [show (Value.type "method-wrapper" == Value.type "method" || Value.type "method-wrapper" == Value.type "builtin_function_or_method" || Value.type "method-wrapper" == Value.type "method-wrapper") = true by decide]
  refine KFB.if_so (by decide) (wpAny_bind (check_bound_init FB.toExcCallFacts hC he rfl (wpAny_bind (wpAny_pure (wpAny_pure ⟨plainId_quiet FB.init.plain _, codeAny_builtin FB.initEntry ?_⟩)))))
  exact exc_init_tree (cls := .ref C) (t0 := t0) (dv := none) (c2 := .none) (c3 := .none) (b4 := .bool false) he hz fun h' k1 k2 _ => fin h' _ k1 k2
theorem store_first {f : Str} {v : Value} {Q : Unit → Shared → Prop} {cd : ClassData} (X : K.In h) (SF : StoreFacts B bmB "object.__setattr__" "object") (hov : excOver K C bmB = true) (hcd : clsIn K C = some cd) (hd : cd.hasDict = true) (hsa : findIn K (.ref C) "__setattr__" = some (some (.builtin "object.__setattr__")))
    (ht : takerIn K C f = some none) (he : h.get? e = some (recX C t0 none))
    (fin : ∀ h' tk dx, (∀ b o, b ≠ e → h.get? b = some o → h'.get? b = some o) → h.objs.size ≤ dx → dx ≠ e → h'.get? e = some (recX C t0 (some dx)) → h'.Ns1 dx (fun y => if y = f then some v else none) → Q () ⟨h', g, d, tk, os⟩) :
    wpAny (model prog w) A (setAttr (.ref e) f v) Q E ⟨h, g, d, t, os⟩ := by
  have I : InstAt h e (recX C t0 none) C none := ⟨he, rfl, rfl, trivial⟩
  have hes : e ≠ h.objs.size := Nat.ne_of_lt (Heap.lt_size he)
  refine set_plain X I hsa ?_
  refine osa_openX SF X I hov ht fun b => ?_
  have hcls : Looks (model prog w) h (classData C) cd := looks_clsIn X hcd
  obtain ⟨nm, bs, mro, ns, qn, hdc, sn, sb, ab, col, del⟩ := cd
  dsimp only at hd
  subst hd
  unfold storeInOwnDict ownDictForStores
  repeat (first | with_reducible refine HandSPX.store_in_new ?_ ?_ | with_reducible refine wpAny_loadPart_at he ?_ | with_reducible refine hcls.at ?_ | wp_step)
  · exact ⟨_, #[], _, (Heap.get?_update_ne _ _ _ _ hes.symm).trans (Heap.get?_push_at rfl rfl), rfl, fun z hz => absurd hz (by simp), fun _ => rfl⟩
  · intro h' tk' hn' hs
    have he₁ : (h.push { cls := .type "dict", data := .dict #[] }).get? e = some (recX C t0 none) := Heap.get?_push_of_some _ he
    refine fin h' tk' h.objs.size (fun b o hb ho => ?_) (Nat.le_refl _) hes.symm ?_ hn'
    · exact (hs.2 b (Nat.ne_of_lt (Heap.lt_size ho))).trans ((Heap.get?_update_ne _ _ _ _ hb).trans (Heap.get?_push_of_some _ ho))
    · exact (hs.2 e hes).trans (Heap.get?_update_self _ he₁ rfl)
end
def fdAt (K : Frag) (a : Addr) : FuncData := match K.lookup a with
  | some ⟨_, _, .func fd, _⟩ => fd
  | _ => default
def isFd (K : Frag) (a : Addr) : Bool := match K.lookup a with
  | some ⟨_, _, .func _, _⟩ => true
  | _ => false
theorem fd_at {K : Frag} {a : Addr} (h : isFd K a = true) : ∃ oc od osl, K.lookup a = some ⟨oc, od, .func (fdAt K a), osl⟩ := by
  unfold isFd at h
  split at h
  · rename_i q
    exact ⟨_, _, _, by unfold fdAt; rw [q]⟩
  · cases h
def bodyOf (fd : FuncData) : List Stmt := match fd.body with
  | .stmts b => b
  | _ => []
def isStmts (fd : FuncData) : Bool := match fd.body with
  | .stmts _ => true
  | _ => false
theorem body_is {fd : FuncData} (h : isStmts fd = true) : fd.body = .stmts (bodyOf fd) := by
  unfold isStmts at h
  split at h
  · rename_i q
    unfold bodyOf; rw [q]
  · cases h
def parsOf (a : Arguments) : Option (List Str) := match a with
  | ⟨[], xs, none, [], [], none, []⟩ => some (xs.map (·.arg))
  | _ => none
def fileIn (K : Frag) (a : Addr) : Option Str := match K.lookup a with
  | some ⟨_, _, .fields vs, _⟩ => (match vs[2]? with | some (Value.str f _) => some f | _ => none)
  | _ => none
theorem file_at {K : Frag} {a : Addr} {f : Str} (h : fileIn K a = some f) : ∃ oc od osl vs tf, K.lookup a = some ⟨oc, od, .fields vs, osl⟩ ∧ vs[2]? = some (.str f tf) := by
  unfold fileIn at h
  split at h
  · rename_i q
    split at h
    · rename_i r
      cases h
      exact ⟨_, _, _, _, _, q, r⟩
    · cases h
  · cases h
def cellIn (K : Frag) (a : Addr) : Option Value := match K.lookup a with
  | some ⟨_, _, .cell v, _⟩ => v
  | _ => none
theorem cell_at {K : Frag} {a : Addr} {v : Value} (h : cellIn K a = some v) : ∃ oc od osl, K.lookup a = some ⟨oc, od, .cell (some v), osl⟩ := by
  unfold cellIn at h
  split at h
  · rename_i q
    rw [h] at q
    exact ⟨_, _, _, q⟩
  · cases h
theorem binds3 {fd : FuncData} {p : Str} (h : parsOf fd.params = some [("self" : Str), p]) (hp : p = "word" ∨ p = "at" ∨ p = "name") (hd : fd.defaults = .none) (s : Shared) (a u : Value) : BindsTo s fd ⟨[a, u], []⟩ [(("self" : Str), a), (p, u)] := by
  obtain ⟨n, q, pr, b, sc, gl, cl, df, kd, dc, pm, an, cd, ct, bl⟩ := fd
  dsimp only at h hd
  subst hd
  unfold parsOf at h
  split at h
  · rename_i xs
    have e : xs.map (·.arg) = [("self" : Str), p] := Option.some.inj h
    match xs, e with
    | [⟨x, a1, r1⟩, ⟨y, a2, r2⟩], e =>
      simp only [List.map_cons, List.map_nil, List.cons.injEq, and_true] at e
      obtain ⟨rfl, rfl⟩ := e
      rcases hp with rfl | rfl | rfl <;> exact .of_eq rfl
  · cases h
theorem pars_head {a : Arguments} {x : Str} {r : List Str} (h : parsOf a = some (x :: r)) : ∃ ar : Arg, (a.posonlyargs ++ a.args).head? = some ar ∧ ar.arg = x := by
  unfold parsOf at h
  split at h
  · rename_i xs
    have e : xs.map (·.arg) = x :: r := Option.some.inj h
    match xs, e with
    | y :: ys, e =>
      simp only [List.map_cons, List.cons.injEq] at e
      exact ⟨y, rfl, e.1⟩
  · cases h
structure XcF (prog : Program) (K : Frag) (B i newId : String) (bmB : List Value) (C fI cc cda : Addr) (f : Str) (cd : ClassData) : Prop where
  FB : ExcBaseFacts B newId i bmB
  KF : KxsFacts B i
  SF : StoreFacts B bmB "object.__setattr__" "object"
  ini : excInitIn K C bmB newId = true
  ov : excOver K C bmB = true
  hi : findIn K (.ref C) "__init__" = some (some (.ref fI))
  fn : isFn K (.ref fI) = true
  fd : isFd K fI = true
  clo : (fdAt K fI).closure = [(("__class__" : Str), cc)]
  st : isStmts (fdAt K fI) = true
  sh : shapeOf (bodyOf (fdAt K fI)) = some (("self" : Str), f, f)
  code : (fdAt K fI).code = .ref cda
  glo : (fdAt K fI).globals = mainGlobals
  bui : (fdAt K fI).builtins = builtinsNs
  dfl : (fdAt K fI).defaults = .none
  par : parsOf (fdAt K fI).params = some [("self" : Str), f]
  nam : f = "word" ∨ f = "at" ∨ f = "name"
  cod : codeIn K (.ref cda) (fdAt K fI).qualname = true
  fil : fileIn K cda = some prog.main.file
  top : (prog.main.scope.names.lookup ("super" : Str)).isSome = false
  cel : cellIn K cc = some (.ref C)
  cls : clsIn K C = some cd
  hd : cd.hasDict = true
  mro : mroIn K C (.ref C) = some true
  sup : nsIn K mainGlobals "super" = some none
  tpa : nsIn K cStatics "thirdparty.any" = some none
  sin : ks_superIn K C C "__init__" = some (some (.builtin i))
  sub : subIn K (.ref C) (.type B) = some true
  seta : findIn K (.ref C) "__setattr__" = some (some (.builtin "object.__setattr__"))
  tak : takerIn K C f = some none
  s1 : (fdAt K fI).scope.names.lookup ("super" : Str) = some .globalImplicit
  s2 : (fdAt K fI).scope.names.lookup ("__class__" : Str) = some .free
  s3 : (fdAt K fI).scope.names.lookup ("self" : Str) = some .local
  s4 : (fdAt K fI).scope.names.lookup f = some .local
  s5 : (fdAt K fI).scope.kind = .function
  s6 : (fdAt K fI).scope.isCoroutine = false
  s7 : (fdAt K fI).scope.isGenerator = false
  s8 : (fdAt K fI).scope.names.all (fun x => decide (x.2 ≠ .cell)) = true
section
variable {prog : Program} {w : World} {A : Around} {R : Result → Shared → Prop} {h : Heap} {g : Array GenState} {d : Drawn} {t : Nat} {os : OsState} {K : Frag} {B i newId : String} {bmB : List Value} {C fI cc cda e t0 : Addr} {f : Str} {cd : ClassData} {mg mb : Str → Option Value} {u : Value}
theorem nsKeep {h h' : Heap} {L : Addr} {m : Str → Option Value} (n : h.Ns L m) (k : ∀ b o, h.get? b = some o → h'.get? b = some o) : h'.Ns L m := by
  obtain ⟨o, es, ep, a, r⟩ := n
  exact ⟨o, es, ep, k _ _ a, r⟩
theorem ev_local {M : Model} {E : Value → Shared → Prop} {s : Shared} {env : Env} {m : Str → Option Value} {x : Str} {pos : Pos} {v : Value} {Q : Value → Shared → Prop} (hn : s.heap.Ns env.locals m) (hv : m x = some v) (q : Q v s) (hk : env.scope.kind = .function) (hl : env.kindOf x = some .local) (hd : (x == ("__debug__" : Str)) = false) :
    wpAny M A (eval (.Name x pos) env) Q E s := wpAny_Name (wpAny_loadName_local hk hl hn hv q) hd
theorem run_init (T : XcF prog K B i newId bmB C fI cc cda f cd) (X : K.In h) (hg : h.Ns mainGlobals mg) (hb : h.Ns builtinsNs mb) (hbb : ∀ x : Str, x ≠ "__name__" → mb x = bootBuiltins x) (hlim : h.NoLimit) (hroom : A.depth < recursionLimit) (he : h.get? e = some (recX C t0 none)) (heK : K.lookup e = none)
    (fin : ∀ h' tk t1 dx, (∀ b o, b ≠ e → h.get? b = some o → h'.get? b = some o) → h.objs.size ≤ dx → dx ≠ e → h'.get? e = some (recX C t1 (some dx)) → h'.Ns1 dx (fun y => if y = f then some u else none) → R (.ok (.ret .none)) ⟨h', g, d, tk, os⟩) :
    codeAny (model prog w) A (.call (.ref fI) ⟨[.ref e, u], []⟩) R ⟨h, g, d, t, os⟩ := by
  obtain ⟨oc, od, osl, hlk⟩ := fd_at T.fd
  obtain ⟨ccl, cdd, ccs, vs, tf, hcode, hvs⟩ := file_at T.fil
  obtain ⟨cl, cld, csl, hcell⟩ := cell_at T.cel
  obtain ⟨ar, har, hse⟩ := pars_head T.par
  obtain ⟨a1, a2, a3, a4, a5, a6, b1, b2, b3, b4, hline, hbody⟩ := shape_is T.sh
  have fself : (f == ("self" : Str)) = false := by rcases T.nam with rfl | rfl | rfl <;> decide +kernel
  have fdbg : (f == ("__debug__" : Str)) = false := by rcases T.nam with rfl | rfl | rfl <;> decide +kernel
  have hne : ("self" : Str) ≠ f := fun z => by rw [← z] at fself; exact absurd fself (by decide +kernel)
  have hloc : ∀ x ∈ ([(("self" : Str), Value.ref e), (f, u)] : List (Str × Value)), (fdAt K fI).scope.names.lookup x.1 = some .local := by
    intro x hx
    simp only [List.mem_cons, List.not_mem_nil, or_false] at hx
    rcases hx with rfl | rfl
    · exact T.s3
    · exact T.s4
  obtain ⟨oD, hD1, hD2⟩ : ∃ oD, h.get? C = some oD ∧ oD.data = .cls cd := by
    have hD := T.cls
    unfold clsIn at hD
    split at hD
    · rename_i ho
      cases hD
      exact ⟨_, X _ _ ho, rfl⟩
    · cases hD
  refine ks_codeAny_call_defAt (fd := fdAt K fI) (body := bodyOf (fdAt K fI)) (binds := [(("self" : Str), .ref e), (f, u)]) hroom (X _ _ hlk) rfl hlim (by rw [T.code]; exact codeRec_of X T.cod) (body_is T.st) (binds3 T.par T.nam T.dfl _ _ _) (fun x hx => of_decide_eq_true (List.all_eq_true.mp T.s8 x hx)) hloc (fun h₁ hns k1 => ?_) T.s6 T.s7 T.s5
  rw [hbody]
  generalize hev : callEnv (fdAt K fI) h.objs.size fI = env
  have e1 : env.scope = (fdAt K fI).scope := by rw [← hev]; rfl
  have e2 : env.locals = h.objs.size := by rw [← hev]; rfl
  have e3 : env.cells = [(("__class__" : Str), cc)] := by rw [← hev]; exact T.clo
  have e4 : env.func = some fI := by rw [← hev]; rfl
  have e5 : env.code = .ref cda := by rw [← hev]; exact T.code
  have e6 : env.globals = mainGlobals := by rw [← hev]; exact T.glo
  have e7 : env.builtins = builtinsNs := by rw [← hev]; exact T.bui
  have ek : env.scope.kind = .function := by rw [e1]; exact T.s5
  have ko : ∀ {x : Str} {k : NameKind}, (fdAt K fI).scope.names.lookup x = some k → env.kindOf x = some k := fun {x k} z => by
    show env.scope.names.lookup x = _
    rw [e1]; exact z
  have X1 : K.In h₁ := X.keeps k1
  have hmc : eval (.Call (.Attribute (.Call (.Name "super" a1) [] [] a2) "__init__" a3) [.Name f a4] [] a5) env = (do
      let ov ← attributeBase (.Call (.Name "super" a1) [] [] a2) "__init__" env (eval (.Call (.Name "super" a1) [] [] a2) env)
      standAt a3.atName
      let (z, first) ← holding [ov] (getMethod ov "__init__" (L2.plainOf (.Call (.Name "super" a1) [] [] a2) env))
      callWith a5 z first (backTo a5 (starEach [.Name f a4] env)) []) := by
    show (do let ov ← attributeBase (.Call (.Name "super" a1) [] [] a2) "__init__" env (eval (.Call (.Name "super" a1) [] [] a2) env); standAt a3.atName; methodCall (.Call (.Name "super" a1) [] [] a2) "__init__" a3 a5 env ov 1 (backTo a5 (starEach [.Name f a4] env)) (backToKw a5 (keywordEach [] env))) = _
    simp only [L2.mcall_line (o := .Call (.Name "super" a1) [] [] a2) (env := env) (n := 1) (args := backTo a5 (starEach [.Name f a4] env)) (kws := backToKw a5 (keywordEach [] env)) (by rfl) hline]
    rfl
  refine ks_wpAt_execs_cons (ks_wpAt_Expr_any (ks_wpAt_MethodCall (pl := L2.plainOf (.Call (.Name "super" a1) [] [] a2) env) ?_ hmc) ?_ rfl)
  rotate_left
  · unfold interactive; rw [ek]; rfl
  have lself : ([(("self" : Str), Value.ref e), (f, u)] : List (Str × Value)).reverse.lookup ("self" : Str) = some (Value.ref e) := by
    show List.lookup _ [(f, u), (("self" : Str), Value.ref e)] = _
    have : (("self" : Str) == f) = false := by
      rcases T.nam with rfl | rfl | rfl <;> decide +kernel
    simp [List.lookup, this]
  have lf : ([(("self" : Str), Value.ref e), (f, u)] : List (Str × Value)).reverse.lookup f = some u := by
    show List.lookup _ [(f, u), (("self" : Str), Value.ref e)] = _
    simp [List.lookup]
  refine ks_wpAt_super_base (env := env) (ko T.s1) (ko T.s2) rfl e4 (X1 _ _ hlk) rfl har e5 (X1 _ _ hcode) rfl hvs (beq_self_eq_true _) T.top ?_
  refine ks_loadName_global ek (ko T.s1) (loadGlobal_builtin (by rw [e6]; exact nsKeep hg k1) (mg_none_of X hg T.sup) (by rw [e7]; exact nsKeep hb k1) ((hbb _ (by decide +kernel)).trans (by first | rfl | kernel_rfl)) ⟨rfl, ?_⟩)
  refine wpAny_loadName_free ek (ko T.s2) (by rw [e3]; rfl) ⟨_, X1 _ _ hcell, rfl⟩ ?_
  rw [hse]
  refine wpAny_loadName_local ek (ko T.s3) (by rw [e2]; exact hns) lself ?_
  refine ks_wpAny_isType_cls (k1 _ _ hD1) hD2 ⟨rfl, ?_⟩
  refine ks_wpAny_call_super (k1 _ _ hD1) hD2 (k1 _ _ he) rfl (fun c z => by cases z) (looks_mroIn X1 T.mro) (fun h₂ hso k2 => ?_)
  have X2 : K.In h₂ := X1.keeps k2
  have he2 : h₂.get? e = some (recX C t0 none) := k2 _ _ (k1 _ _ he)
  have I2 : InstAt h₂ e (recX C t0 none) C none := ⟨he2, rfl, rfl, trivial⟩
  have hm : ∃ l, (cd.mro.dropWhile (· != .ref C)).drop 1 = l ∧ alongIn K "__init__" l = some (some (.builtin i)) := by
    have z := T.sin
    unfold ks_superIn at z
    rw [T.cls] at z
    exact ⟨_, rfl, z⟩
  obtain ⟨l, hl, hal⟩ := hm
  refine kxs_getMethod T.KF hso (looks_opaque X2 T.tpa) (l₀ := cd.mro) (fun A Q E s k q => wpAny_bind ((looks_clsIn X2 T.cls) A _ E s k (wpAny_pure q))) hl X2 hal (I2.type.andThen (looks_subIn X2 T.sub)) (ks_ne X2 I2 T.cls) rfl ?_
  have k3 : ∀ b o, h₂.get? b = some o → (h₂.push (kxs_mw i e)).get? b = some o := fun b o z => Heap.get?_push_of_some _ z
  have hmw : (h₂.push (kxs_mw i e)).get? h₂.objs.size = some (kxs_mw i e) := Heap.get?_push_at rfl rfl
  have hns3 : (h₂.push (kxs_mw i e)).Ns env.locals (fun y => ([(("self" : Str), Value.ref e), (f, u)] : List (Str × Value)).reverse.lookup y) := by rw [e2]; exact nsKeep (nsKeep hns k2) k3
  refine kxs_callWith (i := i) (x := e) rfl (evalArgs_plain ?_)
  have hsp : ∀ {M : Model} {A : Around} {E : Value → Shared → Prop} {s : Shared} {Q : List Value → Shared → Prop}, s.heap.Ns env.locals (fun y => ([(("self" : Str), Value.ref e), (f, u)] : List (Str × Value)).reverse.lookup y) → Q [u] s → wpAny M A (spliced (backTo a5 (starEach [.Name f a4] env))) Q E s := fun hn q =>
    spliced_more (ev_local hn lf (spliced_none q) ek (ko T.s4) fdbg)
  refine hsp hns3 ⟨hmw, ?_⟩
  refine call_wrap (K := K) (X2.keeps k3) T.FB T.ini hmw (k3 _ _ he2) (show 1 ≤ sizeLine by decide) fun h₄ t1 k4 he4 => ?_
  have kA : ∀ b o, b ≠ e → h₁.get? b = some o → h₄.get? b = some o := fun b o n z => k4 b o n (k3 _ _ (k2 _ _ z))
  have Le : env.locals ≠ e := by
    rw [e2]; exact fun z => absurd (Heap.lt_size he) (by rw [← z]; exact Nat.lt_irrefl _)
  have hns4 : h₄.Ns env.locals (fun y => ([(("self" : Str), Value.ref e), (f, u)] : List (Str × Value)).reverse.lookup y) := by
    obtain ⟨o, es, ep, z, r⟩ := hns3
    exact ⟨o, es, ep, k4 _ _ Le z, r⟩
  dsimp only
  refine ks_wpAt_execs_cons (ks_wpAt_Assign_Attr ?_ rfl)
  refine wpAt_of_wpAny (ev_local hns4 lf (ev_local hns4 lself ?_ ek (ko T.s3) rfl) ek (ko T.s4) fdbg)
  have X4 : K.In h₄ := fun b o z => kA b o (fun y => by rw [y, heK] at z; cases z) (X1 b o z)
  refine store_first (K := K) X4 T.SF T.ov T.cls T.hd T.seta T.tak he4 fun h₅ tk dx k5 hdx hne5 he5 hn5 => ?_
  have up : h.objs.size ≤ h₄.objs.size := by
    rcases Nat.lt_or_ge h₄.objs.size h.objs.size with q | q
    · obtain ⟨oE, hoE⟩ : ∃ o, h₄.get? env.locals = some o := by obtain ⟨o, es, ep, z, r⟩ := hns4; exact ⟨o, z⟩
      have := Heap.lt_size hoE
      rw [e2] at this
      exact absurd (Nat.lt_trans this q) (Nat.lt_irrefl _)
    · exact q
  have R1 := fin h₅ tk t1 dx (fun b o n z => k5 b o n (kA b o n (k1 _ _ z))) (Nat.le_trans up hdx) hne5 he5 hn5
  show PySem.wpAt _ _ _ (execs [] env) _ _ _
  exact wpAt_of_wpAny (wpAny_pure R1)
end
end TreeX
end
section
namespace TreeX
open PySem PySem.Spec PyProof.Rows L2 TreeL
section
variable {X : Cx} {B i newId : String} {bmB : List Value} {C fI cc cda : Addr} {f : Str} {cd : ClassData} {e : Expr} {ta : TE} {x : Str} {p pos : Pos}
theorem pmk_x (T : XcF X.prog X.K B i newId bmB C fI cc cda f cd) (k1 : PySem.W.keepIn X.K (.ref C) = true) (k2 : PySem.W.subIn X.K (.ref C) (.type "BaseException") = some true) (k3 : PySem.W.typeIn X.K (.ref C) = some (.type "type")) (k4 : PySem.W.typeIn X.K (.ref fI) = some (.type "function")) (hr : Room 1 X.A) (hg : Gl X x) (hm : X.mg x = some (.ref C)) (he : PE X e ta)
    (hdb : (x == ("__debug__" : Str)) = false := by decide) (hst : starEach [e] X.env = (false, eval e X.env) :: starEach [] X.env := by rfl) :
    PMk X (.Call (.Name x p) [e] [] pos) (fun σ H Q => ta σ H fun v H1 => ∀ d, H1 d = none → Q (.ref C) (some d) (upd H1 d (.xd [(f, v)]))) := by
  intro pins s σ H Q I h
  refine wpAny_Call_Name_kw (ld_glob I hg hm ?_ hdb)
  have hpa : PA X [e] (tCons ta tNil) := pa_cons he pa_nil hst
  refine PySem.W.callWith_K (h₀ := X.base) I.ok.mod.kin k1 (thn (hpa.run pos pins s σ H (fun vs H1 => match vs with | [v] => ∀ d, H1 d = none → Q (.ref C) (some d) (upd H1 d (.xd [(f, v)])) | _ => False) I h) fun us s1 hh => ?_) hst (by rfl)
  obtain ⟨vs, H1, I1, r1, q1⟩ := hh
  refine ⟨I1.kIn, ?_⟩
  cases r1 with
  | nil => exact q1.elim
  | cons ru rn =>
  cases rn with
  | cons _ _ => exact q1.elim
  | nil =>
    rename_i v u
    show wpAny _ _ (call (.ref C) [u]) _ _ _
    obtain ⟨hp, g, dr, tk, os⟩ := s1
    obtain ⟨nm, N', qn, bs, bm, hdct, sn, sub, ab, col, dd, c0, c1, c2, c3, c5, hC, hT⟩ := PySem.W.excInit_of I1.kIn T.ini
    have kk : ∀ b o, hp.get? b = some o → ((hp.push (PySem.W.kdv_tup [u])).push (PySem.HandSPX.excO C hp.objs.size)).get? b = some o := fun b o e => Heap.get?_push_of_some _ (Heap.get?_push_of_some _ e)
    have hget : ((hp.push (PySem.W.kdv_tup [u])).push (PySem.HandSPX.excO C hp.objs.size)).get? (hp.objs.size + 1) = some (PySem.HandSPX.excO C hp.objs.size) := by heap_get
    obtain ⟨mb, hb1, hb2⟩ := I1.mod.blt
    have KX := I1.kIn
    have hne : hp.get? (hp.objs.size + 1) = none := Heap.get?_none_of_le (Nat.le_succ _)
    refine wpAny_call (PySem.HandSPX.call_own T.FB hT hC (PySem.W.looks_findIn KX T.hi) (fun self => PySem.W.bind_fn KX self k4) (show 1 ≤ sizeLine by decide) ?_)
    refine run_init (mb := mb) T (KX.keeps kk) ((I1.mod.glob.keeps I1.bk).keeps kk) ((hb1.keeps I1.bk).keeps kk) hb2 (I1.nolimit.keeps kk) ?_ hget ?_ fun h' t' t1 dx kz hdx hne' he' hn' => ?_
    · exact (hr.make C [u] []).depth
    · cases z : X.K.lookup (hp.objs.size + 1) with
      | none => rfl
      | some o => rw [KX _ _ z] at hne; cases hne
    · refine ⟨rfl, ?_⟩
      obtain ⟨G, g1, g2⟩ := restrict h' fun b => decide (b ≠ hp.objs.size + 1)
      have gk : ∀ b, b ≠ hp.objs.size + 1 → G.get? b = h'.get? b := fun b hb => g1 b (decide_eq_true hb)
      have ge : G.get? (hp.objs.size + 1) = none := g2 _ (by simp)
      have nha : ∀ {b : Addr} {o : Obj}, hp.get? b = some o → b ≠ hp.objs.size + 1 := fun {b o} z y => by rw [y, hne] at z; cases z
      have hGk : ∀ b o, hp.get? b = some o → G.get? b = some o := fun b o z => by rw [gk b (nha z)]; exact kz b o (nha z) (kk b o z)
      have hszd : hp.objs.size ≤ dx := by
        refine Nat.le_trans ?_ hdx
        rw [Heap.size_push, Heap.size_push]
        exact Nat.le_succ_of_le (Nat.le_succ _)
      have I2 : Inv X pins σ (upd H1 dx (.xd [(f, v)])) ⟨G, g, dr, t', os⟩ := I1.laid (t' := t') (a := dx) (h' := G) hGk hszd
        ⟨_, hn'.at fun o y => (gk dx hne').trans y, fun y => by
          by_cases z : y = f
          · subst z
            simp [List.lookup]
            exact ru
          · have : (y == f) = false := by simpa using z
            simp [List.lookup, this, z]
            trivial⟩
      have n1 : H1 dx = none := I1.hok.fresh hszd
      refine ⟨hp.objs.size + 1, _, _, ⟨G, g, dr, t', os⟩, _, .ref C, some dx, rfl, I2, fun b o z => ?_, ge, he', ⟨rfl, rfl⟩, rfl, rfl, ?_, rfl, I1.bare, raises_own k2 k3, q1 dx n1⟩
      · have hb : b ≠ hp.objs.size + 1 := fun y => by rw [y, ge] at z; cases z
        have z' : G.get? b = some o := z
        rw [gk b hb] at z'
        exact z'
      · rw [upd_ne (Ne.symm hne')]
        exact I1.hok.gone hne
end
end TreeX
end
section
namespace TreeL
open PySem PySem.Spec PyProof.Rows L2
@[simp] def sRaise (k : Nat) (f : Str) (ea : EvE) : EvS := fun env => (ea env).so fun x e => match x with
  | .tr t => .exc ⟨k, [(f, t)]⟩ e
  | .sl _ => .bad
@[simp] def sRaise0 (k : Nat) : EvS := fun env => .exc ⟨k, []⟩ env
section
variable {X : Cx} {c : TC} {r : Ref} {W : WX} {a : Expr} {ea : EvE} {k : Nat} {x f : Str} {p pos pos' : Pos} {B i newId : String} {bmB : List Value} {fI cc cda : Addr} {cd : ClassData}
theorem ts_raise (T : TreeX.XcF X.prog X.K B i newId bmB (c.C k) fI cc cda f cd) (k1 : PySem.W.keepIn X.K (.ref (c.C k)) = true) (k2 : PySem.W.subIn X.K (.ref (c.C k)) (.type "BaseException") = some true) (k3 : PySem.W.typeIn X.K (.ref (c.C k)) = some (.type "type")) (k4 : PySem.W.typeIn X.K (.ref fI) = some (.type "function"))
    (hr : RoomG 1 X.A) (hc : X.calm = true) (tk : Takes X W) (hg : Gl X x) (hm : X.mg x = some (.ref (c.C k))) (ha : PE X a (TEof c r W ea)) (hdb : (x == ("__debug__" : Str)) = false := by decide) (hst : starEach [a] X.env = (false, eval a X.env) :: starEach [] X.env := by rfl) :
    PS X (.Raise (some (.Call (.Name x p) [a] [] pos)) none pos') (TSof c r W (sRaise k f ea)) := by
  refine PS.imp (ps_raise hc tk (TreeX.pmk_x T k1 k2 k3 k4 hr.rm hg hm ha hdb hst)) fun D σ H h => ?_
  obtain ⟨ads, G, env, R, h⟩ := h
  refine ⟨ads, G, env, R, ?_⟩
  unfold sRaise at h
  rw [RE.so_Sat] at h
  refine Sat_mono h (fun t e he => ?_) (fun y e he => XC.of he)
  intro ads' G' H' v R' N' vr d hd
  cases t with
  | sl j => exact he.elim
  | tr t =>
    have st : Step [] H' G' (upd H' d (.xd [(f, v)])) (upd G' d (.xd [(f, v)])) := Step.alloc R'.sub hd
    exact he ads' _ _ σ _ _ (R'.next st) (N'.sub.trans st.sub) ⟨rfl, .inr ⟨d, _, rfl, upd_same, v, [], rfl, Rep.mono st.sub vr, rfl⟩⟩
end
theorem PSs.ex {ι : Type} {X : Cx} {st : List Stmt} {P : ι → Prop} {t : ι → TS} (h : ∀ i, P i → PSs X st (t i)) : PSs X st (fun D σ H => ∃ i, P i ∧ t i D σ H) :=
  ⟨fun pins s σ H D I ⟨i, p, q⟩ => (h i p).run pins s σ H D I q⟩
theorem PE.ex {ι : Type} {X : Cx} {e : Expr} {P : ι → Prop} {t : ι → TE} (h : ∀ i, P i → PE X e (t i)) : PE X e (fun σ H Q => ∃ i, P i ∧ t i σ H Q) :=
  ⟨fun pins s σ H Q I ⟨i, p, q⟩ => (h i p).run pins s σ H Q I q⟩
def refS (H G : Hp) (js : List Nat) (ads : Nat → List Addr) (σ : L2.St) (i : Nat) (a : Addr) : Ref :=
  ⟨H, G, (js.map ads).flatten, (i, .ref a, []) :: js.map fun j => (j, (σ[j]?.join).getD .non, ads j)⟩
theorem refS_pins {H G : Hp} {js : List Nat} {ads : Nat → List Addr} {σ : L2.St} {i : Nat} {a : Addr} : (refS H G js ads σ i a).pins.map Prod.fst = i :: js := by
  simp [refS, Function.comp_def]
def okS (js : List Nat) (i : Nat) (env : En) : Bool := (!js.contains i && decide (i < env.length)) && (js.all (fun j => match env[j]? with
    | some (some _) => true
    | _ => false) && (List.range env.length).all fun j => match env[j]? with
    | some (some (.ow _)) => js.contains j
    | _ => true)
section
variable {c : TC} {r : Ref} {ads ads2 : Nat → List Addr} {G H G2 H2 : Hp} {σ σ2 : L2.St} {env env2 : En} {js pn : List Nat} {i : Nat} {a : Addr}
end
@[simp] def sTry (i : Nat) (js ks yes : List Nat) (body : EvS) (suite : EX → EvS) : EvS := fun env => match body env with
  | .exc x e => if ks.contains x.k then (if yes.contains x.k then (if okS js i e then (match suite x (e.set i none) with
      | .nx e' => .nx (e'.set i none)
      | _ => .bad) else .bad) else .exc x e) else .bad
  | o => o
def tSuite (c : TC) (i : Nat) (js ks : List Nat) (ys : EX → EvS) (a : Addr) (cls : Value) (d : Option Addr) : TS := fun D σ H => ∃ q : EX × Ref, (RepX c q.2.G0 q.1 cls d q.2.H0 ∧ (i, V.ref a, []) ∈ q.2.pins ∧ q.2.pins.map Prod.fst = i :: js ∧ ks.contains q.1.k = true) ∧ TSof c q.2 W0 (ys q.1) D σ H
section
variable {X : Cx} {c : TC} {r : Ref} {W : WX} {xs : EvS} {ys : EX → EvS} {i kx : Nat} {js ks yes pn : List Nat} {body suite : List Stmt} {b₀ : Stmt} {n x : Str} {np pos pos' : Pos}
end
@[simp] def eXf (y : EX) (f : Str) : EvE := fun env => (ofO (y.fs.lookup f) env).bind fun t e => .ok (.tr t) e
@[simp] def eXi (yes : List Nat) (y : EX) : EvE := fun env => .ok (.tr (.bl (yes.contains y.k))) env
section
variable {X : Cx} {c : TC} {r' : Ref} {a : Addr} {oe : Obj} {cls : Value} {d : Option Addr} {pn' : List (Addr × Obj)} {y : EX} {i : Nat} {ks : List Nat} {e : Expr} {f : Str} {pos : Pos}
theorem pt_xf (hz : Zc cls d oe) (hf : ∃ vs, oe.data = .fields vs) (hx : RepX c r'.G0 y cls d r'.H0) (hm : (i, V.ref a, []) ∈ r'.pins) (hk : ks.contains y.k = true) (T : ∀ k ∈ ks, XfC X.K (c.C k) ∧ PySem.W.findIn X.K (.ref (c.C k)) f = some none)
    (he : PE (X.suite a ((a, oe) :: pn')) e (tVar i)) (hb : attributeBase e f X.env (eval e X.env) = eval e X.env := by rfl) :
    PE (X.suite a ((a, oe) :: pn')) (.Attribute e f pos) (TEof c r' W0 (eXf y f)) := by
  have t := T y.k (List.contains_iff_mem.mp hk)
  refine PE.imp (pe_xf t.1 t.2 hz hf he hb) fun σ H Q h => ?_
  obtain ⟨ads, G, env, R, h⟩ := h
  unfold eXf at h
  rw [Sat_bind, Sat_ofO] at h
  obtain ⟨u, hu, h⟩ := h
  refine ⟨_, (R.pin _ hm).1, rfl, hx.1, ?_⟩
  rcases hx.2 with ⟨z, _⟩ | ⟨dx, gs, hd, hg, rf⟩
  · rw [z] at hu; cases hu
  · have sG : Sub r'.G0 G := R.step.sub
    obtain ⟨v, hv, rv⟩ := rf.lookup hu
    exact ⟨dx, gs, v, hd, R.sub _ _ (sG _ _ hg), hv, h ads G H v R (Nxt.refl ads G H) (Rep.mono sG rv)⟩
end
structure XiC (K : PySem.W.Frag) (D : Addr) : Prop where
  cl : (PySem.W.clsIn K D).isSome = true
  hg : PySem.W.findIn K (.ref D) "__getattribute__" = some (some (.builtin "BaseException.__getattribute__"))
  hk : PySem.W.findIn K (.ref D) "__getattr__" = some none
  hs : PySem.W.subIn K (.ref D) (.type "BaseException") = some true
  ha : PySem.W.findIn K (.ref D) "__class__" = some (some (.builtin "object.__class__"))
  hn : PySem.W.specialIn K (.builtin "object.__class__") "__get__" = some (some (.builtin "getset_descriptor.__get__"))
  ht : PySem.W.takesIn K (.builtin "object.__class__") = some true
  hm : PySem.W.mroIn K D (.type "object") = some true
def rIsX (K : PySem.W.Frag) (D a : Addr) (d : Option Addr) : List V → Hp → VK → Prop := fun xs H Q => ∃ (z : V) (cv : Value) (b : Bool), xs = [.ref a, z] ∧ (∀ u, RelV z u → u = cv) ∧ (d = none ∨ ∃ dd fs, d = some dd ∧ H dd = some (.xd fs)) ∧ PySem.W.kitOne K (.ref D) cv = some b ∧ Q (.bl b) H
theorem call_isX {X : Cx} {a D : Addr} {oe : Obj} {d : Option Addr} {pn' : List (Addr × Obj)} (T : XiC X.K D) (hz : Zc (.ref D) d oe) (hf : ∃ vs, oe.data = .fields vs) : CallR (X.suite a ((a, oe) :: pn')) (.builtin "isinstance") (rIsX X.K D a d) := by
  intro pins s σ H xs us Q I r h
  obtain ⟨z, cv, b, rfl, hcv, hd, e, q⟩ := h
  cases r with
  | cons rx rr =>
    cases rr with
    | cons rt rr =>
      cases rr
      cases rx
      have ec := hcv _ rt
      subst ec
      have hget := (I.pin (a, oe) (List.mem_append.mpr (.inl List.mem_cons_self))).1
      obtain ⟨vs, hv⟩ := hf
      have J : ∃ od, PySem.W.InstAt s.heap a oe D od := by
        obtain ⟨oc, od, oda, osl⟩ := oe
        obtain ⟨h1, h2⟩ := hz
        dsimp only at h1 h2 hv
        subst h1 h2 hv
        rcases hd with rfl | ⟨dd, fs, rfl, hH⟩
        · exact ⟨none, hget, rfl, rfl, trivial⟩
        · obtain ⟨mA, ⟨o, es, ep, ho, _⟩, _⟩ := I.hok _ _ hH
          exact ⟨some o, hget, rfl, rfl, ho⟩
      obtain ⟨od, J⟩ := J
      exact PySem.W.kia_one (PySem.W.kitx_exc T.cl T.hg T.hk T.hs T.ha T.hn T.ht T.hm) I.kIn J e (fun y => nomatch y) fun tk => ⟨.bl b, H, I.kept (t' := tk) fun _ _ y => y, rfl, q⟩
section
variable {X : Cx} {c : TC} {r' : Ref} {a : Addr} {oe : Obj} {cls : Value} {d : Option Addr} {pn' : List (Addr × Obj)} {y : EX} {i : Nat} {ks yes : List Nat} {e cl : Expr} {p pos : Pos} {v : V} {u : Value}
theorem pt_xi (hz : Zc cls d oe) (hf : ∃ vs, oe.data = .fields vs) (hx : RepX c r'.G0 y cls d r'.H0) (hm : (i, V.ref a, []) ∈ r'.pins) (hk : ks.contains y.k = true) (T : ∀ k ∈ ks, XiC X.K (c.C k)) (hu : ClsV v u) (hq : ∀ k ∈ ks, PySem.W.kitOne X.K (.ref (c.C k)) u = some (yes.contains k))
    (hg : Gl (X.suite a ((a, oe) :: pn')) "isinstance") (hmm : X.mg "isinstance" = none) (he : PE (X.suite a ((a, oe) :: pn')) e (tVar i)) (hcl : PE (X.suite a ((a, oe) :: pn')) cl (tC v))
    (h1 : starEach [e, cl] X.env = (false, eval e X.env) :: starEach [cl] X.env := by rfl) (h2 : starEach [cl] X.env = (false, eval cl X.env) :: starEach [] X.env := by rfl) (hpl : (backTo pos (starEach [cl] X.env)).any (·.1) = false := by rfl) :
    PE (X.suite a ((a, oe) :: pn')) (.Call (.Name "isinstance" p) [e, cl] [] pos) (TEof c r' W0 (eXi yes y)) := by
  have mk := List.contains_iff_mem.mp hk
  refine PE.imp (pe_callB (call_isX (T y.k mk) (by rw [← hx.1]; exact hz) hf) hg hmm boot_isinstance (pa_cons he (pa_cons hcl pa_nil h2) h1) (by decide) (by decide) h1 hpl) fun σ H Q h => ?_
  obtain ⟨ads, G, env, R, h⟩ := h
  refine ⟨_, (R.pin _ hm).1, v, u, yes.contains y.k, rfl, fun w rw => hu.eq rw, ?_, hq y.k mk, h ads G H _ R (Nxt.refl ads G H) (rep_bl (c := c) G)⟩
  rcases hx.2 with ⟨_, z⟩ | ⟨dx, gs, hd, hg', _⟩
  · exact .inl z
  · exact .inr ⟨dx, gs, hd, R.sub _ _ (R.step.sub _ _ hg')⟩
end
end TreeL
end
section
namespace TreeL
open PySem PySem.Spec PyProof.Rows L2
inductive XB where
  | value | index
def XB.name : XB → String
  | .value => "ValueError"
  | .index => "IndexError"
def XB.newId : XB → String
  | .value => "ValueError.__new__"
  | .index => "IndexError.__new__"
def XB.init : XB → String
  | .value => "ValueError.__init__"
  | .index => "IndexError.__init__"
def XB.mro : XB → List Value
  | .value => [.type "ValueError", .type "Exception", .type "BaseException", .type "object"]
  | .index => [.type "IndexError", .type "LookupError", .type "Exception", .type "BaseException", .type "object"]
theorem XB.facts : ∀ b : XB, ExcBaseFacts b.name b.newId b.init b.mro ∧ PySem.W.KxsFacts b.name b.init ∧ PySem.StoreFacts b.name b.mro "object.__setattr__" "object"
  | .value => ⟨PySem.F.excBase_ValueError, PySem.W.kxs_ValueError, PySem.F.store_ValueError⟩
  | .index => ⟨PySem.F.excBase_IndexError, PySem.W.kxs_IndexError, PySem.F.store_IndexError⟩
def iniAt (K : PySem.W.Frag) (C : Addr) : Addr := He.ma K C "__init__"
def ccAt (K : PySem.W.Frag) (C : Addr) : Addr := match (TreeX.fdAt K (iniAt K C)).closure with
  | (_, a) :: _ => a
  | [] => 0
def cdaAt (K : PySem.W.Frag) (C : Addr) : Addr := match (TreeX.fdAt K (iniAt K C)).code with
  | .ref a => a
  | _ => 0
def eqS (a b : Option Value) : Bool := match a, b with
  | some x, some y => x == y
  | none, none => true
  | _, _ => false
def hdIn (K : PySem.W.Frag) (C : Addr) : Bool := match PySem.W.clsIn K C with
  | some cd => cd.hasDict
  | none => false
theorem hd_at {K : PySem.W.Frag} {C : Addr} (h : hdIn K C = true) : ∃ cd, PySem.W.clsIn K C = some cd ∧ cd.hasDict = true := by
  unfold hdIn at h
  split at h
  · rename_i cd q
    exact ⟨cd, q, h⟩
  · cases h
section
open PySem.W
def xcB1 (b : XB) (f : Str) (C : Addr) (K : Frag) : Bool :=
  excInitIn K C b.mro b.newId && excOver K C b.mro && He.eqO (findIn K (.ref C) "__init__") (some (some (.ref (iniAt K C)))) && isFn K (.ref (iniAt K C)) && TreeX.isFd K (iniAt K C) &&
  decide ((TreeX.fdAt K (iniAt K C)).closure = [(("__class__" : Str), ccAt K C)]) && TreeX.isStmts (TreeX.fdAt K (iniAt K C)) && decide (TreeX.shapeOf (TreeX.bodyOf (TreeX.fdAt K (iniAt K C))) = some (("self" : Str), f, f))
def xcB2 (f fl : Str) (C : Addr) (K : Frag) : Bool :=
  (TreeX.fdAt K (iniAt K C)).code == .ref (cdaAt K C) && decide ((TreeX.fdAt K (iniAt K C)).globals = mainGlobals) && decide ((TreeX.fdAt K (iniAt K C)).builtins = builtinsNs) && (TreeX.fdAt K (iniAt K C)).defaults == .none && decide (TreeX.parsOf (TreeX.fdAt K (iniAt K C)).params = some [("self" : Str), f]) && (f == "word" || f == "at" || f == "name") &&
  codeIn K (.ref (cdaAt K C)) (TreeX.fdAt K (iniAt K C)).qualname && decide (TreeX.fileIn K (cdaAt K C) = some fl) && eqS (TreeX.cellIn K (ccAt K C)) (some (.ref C)) && hdIn K C
def xcB3 (b : XB) (f : Str) (C : Addr) (K : Frag) : Bool :=
  decide (mroIn K C (.ref C) = some true) && He.eqO (nsIn K mainGlobals "super") (some none) && He.eqO (nsIn K cStatics "thirdparty.any") (some none) && He.eqO (ks_superIn K C C "__init__") (some (some (.builtin b.init))) && decide (subIn K (.ref C) (.type b.name) = some true) && He.eqO (findIn K (.ref C) "__setattr__") (some (some (.builtin "object.__setattr__"))) && He.eqO (takerIn K C f) (some none)
def xcB4 (f : Str) (C : Addr) (K : Frag) : Bool :=
  let sc := (TreeX.fdAt K (iniAt K C)).scope
  decide (sc.names.lookup ("super" : Str) = some .globalImplicit) && decide (sc.names.lookup ("__class__" : Str) = some .free) && decide (sc.names.lookup ("self" : Str) = some .local) && decide (sc.names.lookup f = some .local) && decide (sc.kind = .function) && !sc.isCoroutine && !sc.isGenerator && sc.names.all (fun x => decide (x.2 ≠ .cell))
def xcB5 (C : Addr) (K : Frag) : Bool := keepIn K (.ref C) && decide (subIn K (.ref C) (.type "BaseException") = some true) && eqS (typeIn K (.ref C)) (some (.type "type")) && eqS (typeIn K (.ref (iniAt K C))) (some (.type "function"))
theorem eqS_ok {a b : Option Value} (h : eqS a b = true) : a = b := by
  unfold eqS at h
  split at h
  · rw [eq_of_beq h]
  · rfl
  · cases h
structure XcAll (P : Program) (K : Frag) (b : XB) (f : Str) (C : Addr) : Prop where
  x : ∃ cd, TreeX.XcF P K b.name b.init b.newId b.mro C (iniAt K C) (ccAt K C) (cdaAt K C) f cd
  k1 : keepIn K (.ref C) = true
  k2 : subIn K (.ref C) (.type "BaseException") = some true
  k3 : typeIn K (.ref C) = some (.type "type")
  k4 : typeIn K (.ref (iniAt K C)) = some (.type "function")
theorem xcAll {P : Program} {K : Frag} {b : XB} {f fl : Str} {C : Addr} (hf : P.main.file = fl) (ht : (P.main.scope.names.lookup ("super" : Str)).isSome = false) (h1 : xcB1 b f C K = true) (h2 : xcB2 f fl C K = true) (h3 : xcB3 b f C K = true) (h4 : xcB4 f C K = true) (h5 : xcB5 C K = true) : XcAll P K b f C := by
  unfold xcB1 at h1
  unfold xcB2 at h2
  unfold xcB3 at h3
  unfold xcB4 at h4
  unfold xcB5 at h5
  simp only [Bool.and_eq_true, decide_eq_true_eq, Bool.not_eq_true', Bool.or_eq_true, beq_iff_eq] at h1 h2 h3 h4 h5
  obtain ⟨⟨⟨⟨⟨⟨⟨a1, a2⟩, a3⟩, a4⟩, a5⟩, a6⟩, a7⟩, a8⟩ := h1
  obtain ⟨⟨⟨⟨⟨⟨⟨⟨⟨b1, b2⟩, b3⟩, b4⟩, b5⟩, b6⟩, b7⟩, b8⟩, b9⟩, b10⟩ := h2
  obtain ⟨⟨⟨⟨⟨⟨c1, c2⟩, c3⟩, c4⟩, c5⟩, c6⟩, c7⟩ := h3
  obtain ⟨⟨⟨⟨⟨⟨⟨d1, d2⟩, d3⟩, d4⟩, d5⟩, d6⟩, d7⟩, d8⟩ := h4
  obtain ⟨⟨⟨e1, e2⟩, e3⟩, e4⟩ := h5
  obtain ⟨cd, q1, q2⟩ := hd_at b10
  obtain ⟨F1, F2, F3⟩ := b.facts
  exact ⟨⟨cd, F1, F2, F3, a1, a2, He.eqO_ok a3, a4, a5, a6, a7, a8, b1, b2, b3, b4, b5, by rcases b6 with (z | z) | z <;> simp [z], b7, by rw [hf]; exact b8, ht, eqS_ok b9, q1, q2, c1, He.eqO_ok c2, He.eqO_ok c3, He.eqO_ok c4, c5, He.eqO_ok c6, He.eqO_ok c7, d1, d2, d3, d4, d5, d6, d7, d8⟩, e1, e2, eqS_ok e3, eqS_ok e4⟩
end
structure X0All (K : PySem.W.Frag) (b : XB) (C : Addr) : Prop where
  q : PySem.W.excIn K C b.mro b.newId = true
  k1 : PySem.W.keepIn K (.ref C) = true
  k2 : PySem.W.subIn K (.ref C) (.type "BaseException") = some true
  k3 : PySem.W.typeIn K (.ref C) = some (.type "type")
def exmB (cs : List Str) (ks yes : List Nat) (kx : Nat) (K : PySem.W.Frag) : Bool := ks.all fun k => decide (PySem.W.exmOne K (.ref ((tcN K cs).C k)) (.ref ((tcN K cs).C kx)) = some (yes.contains k))
theorem exmB_ok {cs : List Str} {ks yes : List Nat} {kx : Nat} {K : PySem.W.Frag} (h : exmB cs ks yes kx K = true) : ∀ k ∈ ks, PySem.W.exmOne K (.ref ((tcN K cs).C k)) (.ref ((tcN K cs).C kx)) = some (yes.contains k) := fun k hk => of_decide_eq_true (List.all_eq_true.mp h k hk)
def xfaB (cs : List Str) (ks : List Nat) (f : Str) (K : PySem.W.Frag) : Bool := ks.all fun k => xfB K ((tcN K cs).C k) && He.eqO (PySem.W.findIn K (.ref ((tcN K cs).C k)) f) (some none)
theorem xfaB_ok {cs : List Str} {ks : List Nat} {f : Str} {K : PySem.W.Frag} (h : xfaB cs ks f K = true) : ∀ k ∈ ks, XfC K ((tcN K cs).C k) ∧ PySem.W.findIn K (.ref ((tcN K cs).C k)) f = some none := fun k hk => by
  have z := List.all_eq_true.mp h k hk
  simp only [Bool.and_eq_true] at z
  exact ⟨xfB_ok z.1, He.eqO_ok z.2⟩
def xiB1 (C : Addr) (K : PySem.W.Frag) : Bool := (PySem.W.clsIn K C).isSome && He.eqO (PySem.W.findIn K (.ref C) "__getattribute__") (some (some (.builtin "BaseException.__getattribute__"))) && He.eqO (PySem.W.findIn K (.ref C) "__getattr__") (some none) && decide (PySem.W.subIn K (.ref C) (.type "BaseException") = some true) &&
  He.eqO (PySem.W.findIn K (.ref C) "__class__") (some (some (.builtin "object.__class__"))) && He.eqO (PySem.W.specialIn K (.builtin "object.__class__") "__get__") (some (some (.builtin "getset_descriptor.__get__"))) && decide (PySem.W.takesIn K (.builtin "object.__class__") = some true) && decide (PySem.W.mroIn K C (.type "object") = some true)
def xiB (cs : List Str) (ks : List Nat) (K : PySem.W.Frag) : Bool := ks.all fun k => xiB1 ((tcN K cs).C k) K
theorem xiB_ok {cs : List Str} {ks : List Nat} {K : PySem.W.Frag} (h : xiB cs ks K = true) : ∀ k ∈ ks, XiC K ((tcN K cs).C k) := fun k hk => by
  have z := List.all_eq_true.mp h k hk
  unfold xiB1 at z
  simp only [Bool.and_eq_true, decide_eq_true_eq] at z
  obtain ⟨⟨⟨⟨⟨⟨⟨a1, a2⟩, a3⟩, a4⟩, a5⟩, a6⟩, a7⟩, a8⟩ := z
  exact ⟨a1, He.eqO_ok a2, He.eqO_ok a3, a4, He.eqO_ok a5, He.eqO_ok a6, a7, a8⟩
def kitB (cs : List Str) (ks yes : List Nat) (t : Tgt) (K : PySem.W.Frag) : Bool := ks.all fun k => decide (PySem.W.kitOne K (.ref ((tcN K cs).C k)) (t.val (tcN K cs)) = some (yes.contains k))
theorem kitB_ok {cs : List Str} {ks yes : List Nat} {t : Tgt} {K : PySem.W.Frag} (h : kitB cs ks yes t K = true) : ∀ k ∈ ks, PySem.W.kitOne K (.ref ((tcN K cs).C k)) (t.val (tcN K cs)) = some (yes.contains k) := fun k hk => of_decide_eq_true (List.all_eq_true.mp h k hk)
@[simp] def eFl (ls ks : List Nat) (f : Str) (ea : EvE) : EvE := fun env => (ea env).bind fun x e => match look e x with
  | some (.ins k fs) => if (ls.contains k && ks.contains k) = true then (ofO (fs.lookup f) e).bind fun t e => .ok (.tr t) e else .bad
  | _ => .bad
section
variable {X : Cx} {c : TC} {r : Ref} {W : WX} {e : Expr} {ea : EvE} {f : Str} {ls ks : List Nat} {pos : Pos}
theorem pt_fl (hf : ∀ k ∈ ls, ks.contains k = true → Cls X.K (c.C k) ∧ NoAttr X.K (c.C k) f) (he : PE X e (TEof c r W ea)) (hb : attributeBase e f X.env (eval e X.env) = eval e X.env := by rfl) : PE X (.Attribute e f pos) (TEof c r W (eFl ls ks f ea)) := by
  refine PE.imp (pe_fld he hb) fun σ H Q h => ?_
  obtain ⟨ads, G, env, R, h⟩ := h
  refine ⟨ads, G, env, R, Sat_mono (Sat_bind.mp h) (fun x e1 h1 ads1 G1 H1 v1 R1 s1 p1 => ?_) fun _ _ z => z⟩
  cases q : look e1 x with
  | none => simp only [q] at h1; exact h1.elim
  | some t =>
    have w := look_rep R1 p1 q
    cases t with
    | ins k fs =>
      simp only [q] at h1
      by_cases m : (ls.contains k && ks.contains k) = true
      · rw [if_pos m] at h1
        obtain ⟨t, ht, h2⟩ := Sat_ofO.mp (Sat_bind.mp h1)
        obtain ⟨a, dx, gs, rfl, hH, rf⟩ := w
        obtain ⟨u, hu, ru⟩ := rf.lookup ht
        rw [Bool.and_eq_true] at m
        obtain ⟨c1, c2⟩ := hf k (List.contains_iff_mem.mp m.1) m.2
        exact ⟨a, c.C k, dx, gs, u, rfl, hH, c1, c2, hu, h2 ads1 G1 H1 u R1 s1 ru⟩
      · rw [if_neg m] at h1; exact h1.elim
    | _ => simp only [q] at h1; exact h1.elim
end
end TreeL
namespace TreeL
open PySem PySem.Spec PyProof.Rows L2
theorem flAll {p q : Nat → Prop} {ls : List Nat} (h : AllP (fun k => q k → p k) ls) : ∀ k ∈ ls, q k → p k := AllP.all h
end TreeL
end
section
namespace TreeL
open PySem PySem.Spec PyProof.Rows L2
section
variable {X : Cx} {c : TC} {r : Ref} {W : WX} {e st : Expr} {ea : EvE} {pos p3 : Pos}
end
section
variable {X : Cx} {c : TC}
end
@[simp] def eFmt (ea : EvE) : EvE := fun env => (ea env).bind fun x e => match look e x with
  | some (.str y) => .ok (.tr (.str y)) e
  | some (.int i) => if 0 ≤ i ∧ i < 10 ^ 100 then .ok (.tr (.str (Str.ofString (toString i)))) e else .bad
  | _ => .bad
def jF : List EvE → Str → En → RE Str
  | [], acc, env => .ok acc env
  | ea :: r, acc, env => (ea env).bind fun x e => match look e x with
    | some (.str y) => if acc.length + y.length ≤ LIM then jF r (acc ++ y) e else .bad
    | _ => .bad
@[simp] def eJs (evs : List EvE) : EvE := fun env => (jF evs Str.empty env).bind fun out e => .ok (.tr (.str out)) e
inductive PJt (X : Cx) (c : TC) (r : Ref) (W : WX) : List Expr → List EvE → Prop where
  | nil : PJt X c r W [] []
  | cons {e : Expr} {ea : EvE} {es : List Expr} {evs : List EvE} (h : PE X e (TEof c r W ea)) (rest : PJt X c r W es evs) : PJt X c r W (e :: es) (ea :: evs)
section
variable {X : Cx} {c : TC} {r : Ref} {W : WX}
end
section
variable {M : Model} {A : Around} {E : Value → Shared → Prop} {s : Shared} {env : Env}
end
section
variable {X : Cx} {c : TC} {r : Ref} {W : WX} {cs : EvC} {rest : List MatchCase} {p p1 : Pos} {is : List Nat} {j : Nat} {xs : List Str} {y : Str} {ps : List Pattern} {body : List Stmt} {gd : EvT} {ys : EvS}
end
end TreeL
end
section
namespace TreeL
open PySem PySem.Spec PyProof.Rows L2
def indexM : PV → List PV → Option Arg
  | .lst xs, [k] => if dat 63 k && datL 63 xs then (xs.findIdx? fun z => peq z k).map fun j => .t (.int (j : Nat)) else none
  | _, _ => none
section
variable {X : Cx} {c : TC}
end
end TreeL
end
section
namespace TreeL
open PySem PySem.Spec PyProof.Rows L2
def keyOf : PV → Option Key
  | .int i => some (.inl i)
  | .str x => some (.inr x)
  | _ => none
def putP (kvs : List (PV × PV)) (k v : PV) : List (PV × PV) :=
  if (kvs.any fun kv => PV.beq kv.1 k) = true then kvs.map (fun kv => if PV.beq kv.1 k = true then (kv.1, v) else kv) else kvs ++ [(k, v)]
def compD (g : Tg) (et : EvT) (ek ea : EvE) (vs : List Nat) (al : En → Bool) : List PV → List (PV × PV) → En → RE (List (PV × PV))
  | [], acc, env => if al env then .ok acc env else .bad
  | t :: ts, acc, env => if al env then (match g t env with
    | none => .bad
    | some e1 => match et e1 with
      | .ok b e2 => if b then (match ek e2 with
          | .ok (.tr k) e3 => (match keyOf k with
            | some _ => (match ea e3 with
              | .ok (.tr x) e4 => if acc.length < LIM then compD g et ek ea vs al ts (putP acc k x) (wipeE e4 vs) else .bad
              | _ => .bad)
            | none => .bad)
          | _ => .bad) else compD g et ek ea vs al ts acc (wipeE e2 vs)
      | _ => .bad) else .bad
@[simp] def fDcmp (ev : EvI) (g : Tg) (et : EvT) (ek ea : EvE) (vs : List Nat) : EvF := fun env => (ev env).bind fun (w : Wk) e0 =>
  if noOwn e0 vs then (match compD g et ek ea vs (alive w.at_ w.ts) w.ts [] (wipeE e0 vs) with
    | .ok acc e1 => .ok (.dct false acc) (unW e0 e1 vs)
    | _ => .bad) else .bad
theorem keyP_inj {q k : Key} (h : keyP q = keyP k) : q = k := by
  cases q <;> cases k <;> simp [keyP] at h <;> rw [h]
theorem beq_key (q k : Key) : PV.beq (keyP q) (keyP k) = decide (q = k) := by
  cases h : PV.beq (keyP q) (keyP k) with
  | true => exact (decide_eq_true (keyP_inj (PV.beq_eq h))).symm
  | false =>
    symm
    rw [decide_eq_false_iff_not]
    intro e
    rw [e, PV.beq_self] at h
    cases h
section
variable {c : TC} {G : Hp}
theorem keyOf_rep {t : PV} {k : Key} {v : V} (h : keyOf t = some k) (p : Rep c G t v) : v = kV k ∧ t = keyP k := by
  cases t with
  | int i => cases h; exact ⟨p, rfl⟩
  | str x => cases h; exact ⟨p.1, rfl⟩
  | _ => cases h
theorem RepK.len : ∀ {kvs : List (PV × PV)} {ks : List (Key × V)}, RepK c G kvs ks → ks.length = kvs.length
  | [], _, h => by rw [show _ = _ from h]; rfl
  | (_, _) :: r, _, h => by
    obtain ⟨q, v, s, rfl, _, _, hr⟩ := h
    rw [List.length_cons, List.length_cons, RepK.len hr]
theorem RepK.any {k : Key} : ∀ {kvs : List (PV × PV)} {ks : List (Key × V)}, RepK c G kvs ks → (ks.any fun kv => decide (kv.1 = k)) = kvs.any fun kv => PV.beq kv.1 (keyP k)
  | [], _, h => by rw [show _ = _ from h]; rfl
  | (_, _) :: r, _, h => by
    obtain ⟨q, v, s, rfl, rfl, _, hr⟩ := h
    rw [List.any_cons, List.any_cons, RepK.any hr, beq_key]
theorem RepK.mapped {k : Key} {x : PV} {v : V} (p : Rep c G x v) : ∀ {kvs : List (PV × PV)} {ks : List (Key × V)}, RepK c G kvs ks → RepK c G (kvs.map fun kv => if PV.beq kv.1 (keyP k) = true then (kv.1, x) else kv) (ks.map fun kv => if kv.1 = k then (kv.1, v) else kv)
  | [], _, h => by rw [show _ = _ from h]; rfl
  | (_, y) :: r, _, h => by
    obtain ⟨q, u, s, rfl, rfl, hy, hr⟩ := h
    have ih := RepK.mapped (k := k) p hr
    rw [List.map_cons, List.map_cons]
    by_cases e : q = k
    · have b : PV.beq (keyP q) (keyP k) = true := by rw [beq_key]; exact decide_eq_true e
      simp only [b, if_true, if_pos e]
      exact ⟨q, v, _, rfl, rfl, p, ih⟩
    · have b : PV.beq (keyP q) (keyP k) = false := by rw [beq_key]; exact decide_eq_false e
      simp only [b, Bool.false_eq_true, if_false, if_neg e]
      exact ⟨q, u, _, rfl, rfl, hy, ih⟩
theorem RepK.snoc {k : Key} {x : PV} {v : V} (p : Rep c G x v) : ∀ {kvs : List (PV × PV)} {ks : List (Key × V)}, RepK c G kvs ks → RepK c G (kvs ++ [(keyP k, x)]) (ks ++ [(k, v)])
  | [], _, h => by rw [show _ = _ from h]; exact ⟨k, v, [], rfl, rfl, p, rfl⟩
  | (_, _) :: r, _, h => by
    obtain ⟨q, u, s, rfl, rfl, hy, hr⟩ := h
    exact ⟨q, u, _, rfl, rfl, hy, RepK.snoc p hr⟩
theorem RepK.put {k : Key} {x : PV} {v : V} {kvs : List (PV × PV)} {ks : List (Key × V)} (h : RepK c G kvs ks) (p : Rep c G x v) : RepK c G (putP kvs (keyP k) x) (putK ks k v) := by
  unfold putP putK
  rw [h.any]
  split
  · exact h.mapped p
  · exact h.snoc p
end
section
variable {X : Cx} {c : TC} {r : Ref} {W : WX}
end
section
variable {X : Cx} {c : TC} {r : Ref} {W : WX} {kx vx tg iter : Expr} {ifs : List Expr} {scope : Scope} {own : List (Str × Nat)} {pos : Pos} {ev : EvI} {us : List Nat} {g : Tg} {et : EvT} {ek ea : EvE}
end
section
variable {X : Cx} {c : TC}
end
@[simp] def sTry0 (ks yes : List Nat) (body suite : EvS) : EvS := fun env => match body env with
  | .exc x e => if ks.contains x.k then (if yes.contains x.k then (match suite e with
      | .exc _ _ => .bad
      | o => o) else .exc x e) else .bad
  | o => o
section
variable {X : Cx} {c : TC} {r : Ref} {W : WX} {xs ys : EvS} {kx : Nat} {ks yes : List Nat} {body suite : List Stmt} {b₀ : Stmt} {x : Str} {np pos pos' : Pos}
end
end TreeL
end
section
namespace TreeL
open PySem PySem.Spec PyProof.Rows L2
section
variable {X : Cx} {c : TC} {r : Ref} {W : WX} {F : FSem} {ea eb : EvE} {k kc : Nat} {ls : List Nat} {f : Addr} {fd : FuncData} {ps : List Str} {pos : Pos} {a b : Expr}
structure EqL (K : PySem.W.Frag) (c : TC) (ls : List Nat) (f : Addr) : Prop where
  ne : ls ≠ []
  m : ∀ k ∈ ls, OwnM K (c.C k) "__eq__" f
  nf : ∀ k ∈ ls, ∀ k' ∈ ls, PySem.W.notFirst K (c.C k) (.ref (c.C k')) = true
  hne : ∀ k ∈ ls, PySem.W.findIn K (.ref (c.C k)) "__ne__" = some (some (.builtin "object.__ne__"))
  hob : ∀ k ∈ ls, PySem.W.mroIn K (c.C k) (.type "object") = some true
end
end TreeL
end
section
namespace TreeL
open PySem PySem.Spec PyProof.Rows L2
section
variable {X : Cx} {c : TC} {r : Ref} {W : WX} {ea ei : EvE} {pos spos : Pos}
def isOwL : Option (Option Arg) → Bool
  | some (some (.ow (.lst _))) => true
  | _ => false
@[simp] def sItem (i : Nat) (ei ea : EvE) : EvS := fun env => (ea env).so fun x e1 => if isOwL e1[i]? then (ei e1).so fun y e2 => (match x, y, e2[i]? with
  | .tr t, .tr (.int k), some (some (.ow (.lst xs))) => (match ixN xs.length k with
    | some j => .nx (e2.set i (some (.ow (.lst (xs.set j t)))))
    | none => .bad)
  | _, _, _ => .bad) else .bad
end
end TreeL
end
section
namespace TreeL
open PySem PySem.Spec PyProof.Rows L2
section
variable {c : TC} {r : Ref} {ads : Nat → List Addr} {G H : Hp} {σ : L2.St} {env : En} {i : Nat} {xs ys : List PV}
def adSet (ads : Nat → List Addr) (i : Nat) (l : List Addr) : Nat → List Addr := fun j => if j = i then l else ads j
theorem adSet_self {l : List Addr} : adSet ads i l i = l := if_pos rfl
theorem adSet_ne {l : List Addr} {j : Nat} (h : j ≠ i) : adSet ads i l j = ads j := if_neg h
end
@[simp] def fLof0 : EvF := fun env => .ok (.lof [] []) env
@[simp] def eLofApp (i : Nat) : EvE := fun env => match env[i]? with
  | some (some (.ow (.lof xs ys))) => if xs.length < 900000 then .ok (.tr .non) (env.set i (some (.ow (.lof (xs ++ [.lst ys]) [])))) else .bad
  | _ => .bad
@[simp] def eLofPut (i j : Nat) : EvE := fun env => match env[i]?, env[j]? with
  | some (some (.ow (.lof xs ys))), some (some (.t t)) => if ys.length < LIM then .ok (.tr .non) (env.set i (some (.ow (.lof xs (ys ++ [t]))))) else .bad
  | _, _ => .bad
@[simp] def eLofTo (i : Nat) : EvE := fun env => match env[i]? with
  | some (some (.ow (.lof xs ys))) => .ok (.tr (.lst (xs ++ [.lst ys]))) (env.set i (some (.t (.lst (xs ++ [.lst ys])))))
  | _ => .bad
section
variable {X : Cx} {c : TC} {r : Ref} {W : WX} {o e idx : Expr} {i j : Nat} {pos p1 p2 apos cpos : Pos}
end
end TreeL
end
section
namespace TreeL
open PySem PySem.Spec PyProof.Rows L2
section
variable {c : TC} {G : Hp}
def hasP (kvs : List (PV × PV)) (k : PV) : Bool := kvs.any fun kv => PV.beq kv.1 k
theorem RepK.has {k : Key} {kvs : List (PV × PV)} {ks : List (Key × V)} (h : RepK c G kvs ks) : (valV ks k).isSome = hasP kvs (keyP k) := by
  rw [← valV_any]
  exact h.any
end
section
variable {X : Cx} {c : TC} {r : Ref} {W : WX} {a b o e : Expr} {ea eb ek : EvE} {i : Nat} {pos pos' : Pos}
theorem opr_ninD (hu : X.A.units + 1 < cLine) : OpR X (compareOp .NotIn) (fun y x H Q => ∃ a ov, x = .ref a ∧ DGet H a y ov ∧ Q (.bl (!ov.isSome)) H) := fun pins s σ H y x u v Q I ry rx ⟨a, ov, ex, g, q⟩ => by
  subst ex
  obtain rfl : v = Value.ref a := rx
  exact d_notIn hu I g ry fun s3 I3 => ⟨.bl (!ov.isSome), H, I3, rfl, q⟩
@[simp] def fDct0 : EvF := fun env => .ok (.dct false []) env
def isOwD : Option (Option Arg) → Bool
  | some (some (.ow (.dct false _))) => true
  | _ => false
@[simp] def sDput (i : Nat) (ek ea : EvE) : EvS := fun env => (ea env).so fun x e1 => if isOwD e1[i]? then (ek e1).so fun y e2 => (match x, y, e2[i]? with
  | .tr t, .tr k, some (some (.ow (.dct false kvs))) => (match keyOf k with
    | some _ => if kvs.length < LIM then .nx (e2.set i (some (.ow (.dct false (putP kvs k t))))) else .bad
    | none => .bad)
  | _, _, _ => .bad) else .bad
end
section
variable {X : Cx} {c : TC} {r : Ref} {W : WX} {e tg : Expr} {td : TE}
theorem RS.relay {ads : Nat → List Addr} {G H : Hp} {σ : L2.St} {env : En} (R : RS c r ads G H σ env) {p : Addr} {ho : HO} (hn : New r ads G p) : RS c r ads G (upd H p ho) σ env := by
  have ne : ∀ {a : Addr} {u : HO}, G a = some u → a ≠ p := fun {a u} e z => by rw [z, hn.1] at e; cases e
  refine ⟨⟨R.step.sub, fun a u e => by rw [upd_ne (ne e)]; exact R.step.sub1 a u e, R.step.new, fun a u hA e => ?_, fun a e => ?_⟩, R.len, fun j => (R.slot j).stay (Sub.refl _) fun b hb u e => ?_, R.own, R.disj, R.pin⟩
  · rw [upd_ne (fun z => by rw [z, hn.2.1] at e; cases e)]; exact R.step.keep a u hA e
  · by_cases z : a = p
    · rw [z, upd_same] at e; cases e
    · rw [upd_ne z] at e; exact R.step.there a e
  · rw [upd_ne (fun z => hn.2.2 j (by rw [← z]; exact hb))]; exact e
theorem RepK.keys : ∀ {G : Hp} {kvs : List (PV × PV)} {ks : List (Key × V)}, RepK c G kvs ks → kvs.map (·.1) = ks.map fun kv => keyP kv.1
  | _, [], _, h => by rw [show _ = _ from h]; rfl
  | G, (_, _) :: rest, _, h => by
    obtain ⟨q, v, s, rfl, rfl, _, hr⟩ := h
    rw [List.map_cons, List.map_cons, RepK.keys hr]
def keyB : PV → Bool
  | .int _ => true
  | .str x => decide (x.length ≤ LIM) && PyData.strOk x
  | _ => false
theorem key_rep {G : Hp} {k : Key} (h : keyB (keyP k) = true) : Rep c G (keyP k) (kV k) := by
  cases k with
  | inl i => simp [keyP, kV, Rep]
  | inr x =>
    simp only [keyP, keyB, Bool.and_eq_true, decide_eq_true_iff] at h
    simp only [keyP, kV, Rep]
    exact ⟨trivial, lim_line h.1, h.2⟩
@[simp] def iKeyF (ef : EvF) : EvI := fun env => (ef env).bind fun o e => match o with
  | .dct false kvs => if (kvs.all fun kv => keyB kv.1) = true then .ok ⟨kvs.map (·.1), .tr .non⟩ e else .bad
  | _ => .bad
end
end TreeL
end
section
namespace TreeL
open PySem PySem.Spec PyProof.Rows L2
def comp2L (g : Tg) (et : EvT) (ev1 : EvI) (g1 : Tg) (et1 : EvT) (ea : EvE) (vs vs1 : List Nat) (al : En → Bool) : List PV → List PV → En → RE (List PV)
  | [], acc, env => if al env then .ok acc env else .bad
  | t :: ts, acc, env => if al env then (match g t env with
    | none => .bad
    | some e1 => match et e1 with
      | .ok b e2 => if b then (match ev1 e2 with
          | .ok w e3 => (match compL g1 et1 ea vs1 (alive w.at_ w.ts) w.ts acc (wipeE e3 vs1) with
            | .ok acc' e4 => comp2L g et ev1 g1 et1 ea vs vs1 al ts acc' (wipeE e4 vs)
            | _ => .bad)
          | _ => .bad) else comp2L g et ev1 g1 et1 ea vs vs1 al ts acc (wipeE e2 vs)
      | _ => .bad) else .bad
@[simp] def fComp2 (ev : EvI) (g : Tg) (et : EvT) (ev1 : EvI) (g1 : Tg) (et1 : EvT) (ea : EvE) (vs vs1 : List Nat) : EvF := fun env => (ev env).bind fun (w : Wk) e0 =>
  if noOwn e0 vs then (match comp2L g et ev1 g1 et1 ea vs vs1 (alive w.at_ w.ts) w.ts [] (wipeE e0 vs) with
    | .ok acc e1 => .ok (.lst acc) (unW e0 e1 vs)
    | _ => .bad) else .bad
section
variable {X : Cx} {c : TC} {r : Ref} {W : WX}
structure At (c : TC) (r : Ref) (D : Addr) (adsB : Nat → List Addr) (GB HB : Hp) (σ : L2.St) (ads : Nat → List Addr) (G H : Hp) (env : En) (acc : List PV) (va : List V) : Prop where
  rs : RS c r ads G H σ env
  hx : Hx D adsB GB HB ads G H
  at_ : H D = some (.lst va)
  rep : RepL c G acc va
  new : New r ads G D
theorem At.next {D : Addr} {adsB : Nat → List Addr} {GB HB : Hp} {σ : L2.St} {ads ads' : Nat → List Addr} {G H G' H' : Hp} {env env' : En} {acc : List PV} {va : List V} {σ' : L2.St} (a : At c r D adsB GB HB σ ads G H env acc va) (s : Nxt ads G H ads' G' H') (R : RS c r ads' G' H' σ' env') : At c r D adsB GB HB σ' ads' G' H' env' acc va := by
  have d := s.hold D _ a.at_ a.new.2.2
  exact ⟨R, a.hx.step s, d.1, a.rep.mono s.sub, ⟨d.2.2 nk_lst a.new.1, a.new.2.1, d.2.1⟩⟩
end
end TreeL
end
section
namespace TreeL
open PySem PySem.Spec PyProof.Rows L2
section
variable {X : Cx} {c : TC} {r : Ref} {W : WX}
section
variable {elt tg iter tg1 iter1 : Expr} {ifs ifs1 : List Expr} {scope : Scope} {own : List (Str × Nat)} {pos : Pos} {ev ev1 : EvI} {us us1 vs1 : List Nat} {g g1 : Tg} {et et1 : EvT} {ea : EvE} {i : Nat} {y : Str} {py spos : Pos}
end
end
end TreeL
end
section
namespace TreeL
open PySem PySem.Spec PyProof.Rows L2
section
variable {prog : Program} {w : World} {A : Around} {E : Value → Shared → Prop} {h : Heap} {g : Array GenState} {d : Drawn} {t : Nat} {os : OsState} {a : Addr} {o : Obj}
end
@[simp] def eSlcE (lo hi : EvO) : EvE := fun env => (lo env).bind fun l e1 => (hi e1).bind fun h e2 => .ok (.tr (.slc l h none)) e2
@[simp] def eSlc3 (lo hi st : EvO) : EvE := fun env => (lo env).bind fun l e1 => (hi e1).bind fun h e2 => (st e2).bind fun k e3 => .ok (.tr (.slc l h k)) e3
@[simp] def oAn (ea : EvE) : EvO := fun env => (ea env).bind fun x e => match look e x with
  | some (.int i) => .ok (some i) e
  | some .non => .ok none e
  | _ => .bad
section
variable {X : Cx} {c : TC} {r : Ref} {W : WX} {a b : Expr} {ea eb : EvE} {lo hi st : Option Expr} {ol oh os : EvO} {pos p2 : Pos}
def cutB (n : Nat) (lo hi st : Option Int) : Int × Int × Nat := ((Builtin.Slice.sliceAdjust lo hi (st.getD 1) n).1, st.getD 1, Builtin.Slice.slicePlaces (Builtin.Slice.sliceAdjust lo hi (st.getD 1) n).1 (Builtin.Slice.sliceAdjust lo hi (st.getD 1) n).2 (st.getD 1))
def cutW {α : Type} (xs : List α) (lo hi st : Option Int) : List α := (List.range (cutB xs.length lo hi st).2.2).filterMap fun (m : Nat) => xs[((cutB xs.length lo hi st).1 + (m : Int) * (cutB xs.length lo hi st).2.1).toNat]?
section
variable {prog : Program} {w : World} {A : Around} {E : Value → Shared → Prop} {s : Shared}
end
def slS : PV → Option Int → Option Int → Option Int → Option Arg
  | .tup xs, lo, hi, st => if st ≠ some 0 ∧ (cutW xs lo hi st).length ≤ LIM then some (.t (.tup (cutW xs lo hi st))) else none
  | _, _, _, _ => none
@[simp] def rIxS (ea eb : EvE) : EvR := fun env => (ea env).bind fun x e1 => (eb e1).bind fun y e2 => match look e2 x, look e2 y with
  | some t1, some t2 => (match t2 with
    | .slc l h none => ofO (slA t1 l h) e2
    | .slc l h (some k) => ofO (slS t1 l h (some k)) e2
    | _ => ofO ((ixP t1 t2).map Arg.t) e2)
  | _, _ => .bad
end
end TreeL
end
section
namespace TreeL
open PySem PySem.Spec PyProof.Rows L2
@[simp] def eIsX (sb : Option Bool) (tb : Kd → Option Bool) (ks : List Nat) (ea : EvE) : EvE := fun env => (ea env).bind fun x e => match look e x with
  | some t => (match t with
    | .slc _ _ _ => (ofO sb e).bind fun b e => .ok (.tr (.bl b)) e
    | _ => (ofO (isiF tb ks t) e).bind fun b e => .ok (.tr (.bl b)) e)
  | none => .bad
section
variable {X : Cx} {c : TC} {r : Ref} {W : WX} {e cl : Expr} {ea : EvE} {tb : Kd → Option Bool} {ks : List Nat} {pos p : Pos}
end
section
open PySem.W
variable {prog : Program} {w : World} {A : Around} {E : Value → Shared → Prop} {s : Shared} {K : PySem.W.Frag} {x C L f : Addr} {h₀ : Heap} {m : Str → Option Value} {ox : Obj} {od : Option Obj}
end
section
variable {X : Cx} {c : TC} {r : Ref} {W : WX} {e b : Expr} {eb : EvE} {er : EvR} {kc k i : Nat} {F : FSem} {f : Addr} {fd : FuncData} {ps : List Str} {x : Str} {pos pos' : Pos}
end
section
open PySem.W
variable {prog : Program} {w : World} {A : Around} {E : Value → Shared → Prop} {s : Shared} {K : PySem.W.Frag} {x C L f : Addr} {h₀ : Heap} {m : Str → Option Value} {ox : Obj} {od : Option Obj}
end
section
variable {X : Cx} {c : TC} {r : Ref} {W : WX} {a : Expr} {ea : EvE} {kc k : Nat} {F : FSem} {f : Addr} {fd : FuncData} {ps : List Str} {lo hi st3 : Option Expr} {ol oh os : EvO} {pos p2 : Pos}
end
end TreeL
end
section
namespace SeqG
open PySem PySem.SeqAt
open AutoSeq1 (wpAny_loadPart')
open MeetsSeq MeetsSeq2 MeetsSeq3 SeqRoads2
section
variable {prog : Program} {w : World} {A : Around} {R : Result → Shared → Prop}
end
section
variable {prog : Program} {w : World} {A : Around} {E : Value → Shared → Prop} {s : Shared}
end
end SeqG
namespace TreeL
open PySem PySem.Spec PyProof.Rows L2
section
variable {X : Cx} {c : TC} {r : Ref} {W : WX} {a b e : Expr} {ea eb : EvE} {k kc : Nat} {F : FSem} {f : Addr} {fd : FuncData} {ps : List Str} {pos : Pos}
end
end TreeL
end
section
namespace TreeL
open PySem PySem.Spec PyProof.Rows L2
section
variable {X : Cx} {c : TC} {ls : List Nat} {F : FSem} {f : Addr} {fd : FuncData} {ps : List Str} {k : Nat} {pins : List (Addr × Obj)} {σ : L2.St}
end
end TreeL
end
section
namespace TreeL
open PySem PySem.Spec PyProof.Rows L2
section
variable {X : Cx} {c : TC} {r : Ref} {W : WX} {x e e2 n1 n2 : Expr} {ef : EvF} {er : EvR} {i j : Nat} {pn : List Nat} {pos p2 : Pos}
@[simp] def sRetPr (pn : List Nat) (i : Nat) (ef : EvF) : EvS := fun env => if pn.contains i then .bad else match env[i]? with
  | some (some (.ow (.lst _))) => (ef env).so fun o e => (match o, e[i]? with
    | .lst ys, some (some (.ow (.lst xs))) => .rt (.ow (.pr xs ys)) e
    | _, _ => .bad)
  | _ => .bad
@[simp] def sAsgPr (i j : Nat) (er : EvR) : EvS := fun env => (er env).so fun a e => match a with
  | .ow (.pr xs ys) => if i < e.length ∧ j < e.length then .nx ((e.set i (some (.ow (.lst xs)))).set j (some (.ow (.lst ys)))) else .bad
  | _ => .bad
end
section
variable {X : Cx} {c : TC} {r : Ref} {W : WX} {a b e : Expr} {ea eb : EvE} {k kc : Nat} {F : FSem} {f : Addr} {fd : FuncData} {ps : List Str} {pos : Pos}
end
end TreeL
namespace TreeL
open PySem PySem.Spec PyProof.Rows L2
mutual
def noLst : PV → Bool
  | .lst _ => false
  | .dct _ _ => false
  | .scr _ => false
  | .slc _ _ _ => false
  | .tup xs => noLstL xs
  | .ins _ fs => noLstF fs
  | .non => true
  | .bl _ => true
  | .int _ => true
  | .str _ => true
  | .cls _ => true
def noLstL : List PV → Bool
  | [] => true
  | x :: xs => noLst x && noLstL xs
def noLstF : List (Str × PV) → Bool
  | [] => true
  | (_, x) :: xs => noLst x && noLstF xs
end
section
variable {c : TC} {G G2 : Hp}
def ButL (G G2 : Hp) : Prop := ∀ a u, G a = some u → (∀ l, u ≠ .lst l) → G2 a = some u
theorem ButL.tup {K : PySem.W.Frag} (e : ButL G G2) {a : Addr} {xs : List V} (h : SqP K G a xs) : SqP K G2 a xs := h.imp (fun h => e _ _ h fun l z => nomatch z) id
mutual
theorem Rep.drop (e : ButL G G2) : ∀ {t : PV} {v : V}, noLst t = true → Rep c G t v → Rep c G2 t v
  | .non, _, _, h => by simpa [Rep] using h
  | .bl _, _, _, h => by simpa [Rep] using h
  | .int _, _, _, h => by simpa [Rep] using h
  | .str _, _, _, h => by simpa [Rep] using h
  | .cls _, _, _, h => by simpa [Rep] using h
  | .lst _, _, n, _ => by simp [noLst] at n
  | .dct _ _, _, n, _ => by simp [noLst] at n
  | .scr _, _, n, _ => by simp [noLst] at n
  | .slc _ _ _, _, n, _ => by simp [noLst] at n
  | .tup xs, _, n, h => by
    simp only [Rep] at h ⊢
    rw [noLst] at n
    obtain ⟨p, vs, a, s, r⟩ := h
    exact ⟨p, vs, a, e.tup s, RepL.dropL e n r⟩
  | .ins k fs, _, n, h => by
    simp only [Rep] at h ⊢
    rw [noLst] at n
    obtain ⟨p, dx, gs, a, s, r⟩ := h
    exact ⟨p, dx, gs, a, e _ _ s (fun l z => nomatch z), RepF.dropF e n r⟩
theorem RepL.dropL (e : ButL G G2) : ∀ {t : List PV} {v : List V}, noLstL t = true → RepL c G t v → RepL c G2 t v
  | [], _, _, h => h
  | _ :: _, _, n, ⟨v, r, a, b, d⟩ => by
    rw [noLstL, Bool.and_eq_true] at n
    exact ⟨v, r, a, Rep.drop e n.1 b, RepL.dropL e n.2 d⟩
theorem RepF.dropF (e : ButL G G2) : ∀ {t : List (Str × PV)} {v : List (Str × V)}, noLstF t = true → RepF c G t v → RepF c G2 t v
  | [], _, _, h => h
  | (_, _) :: _, _, n, ⟨v, r, a, b, d⟩ => by
    rw [noLstF, Bool.and_eq_true] at n
    exact ⟨v, r, a, Rep.drop e n.1 b, RepF.dropF e n.2 d⟩
end
end
section
variable {X : Cx} {c : TC} {r : Ref} {W : WX} {F : FSem} {k kc i j : Nat} {f : Addr} {fd : FuncData} {ps : List Str} {x : Str} {p pos : Pos} {a b : Expr}
@[simp] def rMakeL (kc : Nat) (F : FSem) (i j : Nat) : EvR := fun env => match env[i]?, env[j]? with
  | some (some (.ow (.lst xs))), some (some (.ow (.lst ys))) => (match F [.ow (.ins kc []), .t (.lst xs), .t (.lst ys)] with
    | .ret (.t .non) (.ow (.ins k fs) :: _) => if noLstF fs then .ok (.ow (.ins k fs)) env else .bad
    | _ => .bad)
  | _, _ => .bad
end
end TreeL
end
section
namespace TreeL
open PySem PySem.Spec PyProof.Rows L2
def dolSet : List (Str × List PV) → Str → List PV → List (Str × List PV)
  | [], _, _ => []
  | (a, ys) :: r, k, xs => if a = k then (a, xs) :: r else (a, ys) :: dolSet r k xs
def dolGet : List (Str × List PV) → Str → Option (List PV)
  | [], _ => none
  | (a, ys) :: r, k => if a = k then some ys else dolGet r k
section
variable {c : TC} {r : Ref} {ads : Nat → List Addr} {G H : Hp} {σ : L2.St} {env : En} {i : Nat}
theorem DolR.look {k : Str} {xs : List PV} : ∀ {kvs : List (Str × List PV)} {qs : List Addr} {ks : List (Key × V)}, DolR c G H kvs qs ks → dolGet kvs k = some xs → qs.Nodup →
    ∃ q vs, q ∈ qs ∧ valV ks (Sum.inr k) = some (.ref q) ∧ H q = some (.lst vs) ∧ RepL c G xs vs ∧ ∀ xs' vs', RepL c G xs' vs' → DolR c G (upd H q (.lst vs')) (dolSet kvs k xs') qs ks
  | [], _, _, _, e, _ => by cases e
  | (a, ys) :: rest, _, _, ⟨q, qs', ks', vs, e1, e2, h, rx, t⟩, e, nd => by
    subst e1 e2
    rw [List.nodup_cons] at nd
    by_cases z : a = k
    · subst z
      rw [dolGet, if_pos rfl] at e
      cases e
      refine ⟨q, vs, List.mem_cons_self, valV_pos (p := (Sum.inr a, V.ref q)) rfl, h, rx, fun xs' vs' rr => ?_⟩
      rw [dolSet, if_pos rfl]
      refine ⟨q, qs', ks', vs', rfl, rfl, upd_same, rr, t.stay (Sub.refl _) fun b hb u e => ?_⟩
      rw [upd_ne (fun w => nd.1 (by rw [← w]; exact hb))]
      exact e
    · rw [dolGet, if_neg z] at e
      obtain ⟨q', vs2, h1, h2, h3, h4, h5⟩ := DolR.look t e nd.2
      refine ⟨q', vs2, List.mem_cons_of_mem _ h1, (valV_neg (p := (Sum.inr a, V.ref q)) (fun w => z (Sum.inr.inj w))).trans h2, h3, h4, fun xs' vs' rr => ?_⟩
      rw [dolSet, if_neg z]
      refine ⟨q, qs', ks', vs, rfl, rfl, ?_, rx, h5 xs' vs' rr⟩
      rw [upd_ne (fun w => nd.1 (by rw [w]; exact h1))]
      exact h
theorem RS.hide (R : RS c r ads G H σ env) (hp : (r.pins.map Prod.fst).contains i = false) : RS c r (adSet ads i []) G H σ (env.set i none) := by
  have hni : ¬ i ∈ r.pins.map Prod.fst := fun m => by rw [List.contains_iff_mem.mpr m] at hp; cases hp
  refine ⟨R.step, by simp [R.len], fun j => ?_, fun j a ha => ?_, fun j k a ha hb => ?_, fun z hz => ?_⟩
  · by_cases z : j = i
    · subst z
      rw [adSet_self]
      by_cases l : j < env.length
      · rw [join_set_self l]; rfl
      · rw [List.set_eq_of_length_le (by omega)]
        have e : env[j]? = none := List.getElem?_eq_none (by omega)
        rw [e]; rfl
    · rw [join_set_ne (Ne.symm z), adSet_ne z]
      exact R.slot j
  · by_cases z : j = i
    · subst z; rw [adSet_self] at ha; cases ha
    · rw [adSet_ne z] at ha; exact R.own j a ha
  · by_cases z : j = i
    · subst z; rw [adSet_self] at ha; cases ha
    · by_cases z' : k = i
      · subst z'; rw [adSet_self] at hb; cases hb
      · rw [adSet_ne z] at ha
        rw [adSet_ne z'] at hb
        exact R.disj j k a ha hb
  · have ne : z.1 ≠ i := fun e => hni (by rw [← e]; exact List.mem_map_of_mem hz)
    rw [adSet_ne ne]
    exact R.pin z hz
theorem Nxt.hide : Nxt ads G H (adSet ads i []) G H := ⟨Sub.refl _, fun a o e n => ⟨e, fun j m => by
  by_cases z : j = i
  · subst z; rw [adSet_self] at m; cases m
  · rw [adSet_ne z] at m; exact n j m, fun _ => id⟩, fun _ e => e⟩
end
@[simp] def fDol0 (ks : List Str) : EvF := fun env => .ok (.dol (ks.map fun k => (k, []))) env
@[simp] def dolT (kvs : List (Str × List PV)) : PV := .dct false (kvs.map fun q => (.str q.1, .lst q.2))
@[simp] def eDolTo (i : Nat) : EvE := fun env => match env[i]? with
  | some (some (.ow (.dol kvs))) => .ok (.tr (dolT kvs)) (env.set i none)
  | _ => .bad
@[simp] def eLitGet (fs : List (Str × Str)) (ea : EvE) (d : Str) : EvE := fun env => (ea env).bind fun x e => match look e x with
  | some (.str k) => .ok (.tr (.str ((fs.lookup k).getD d))) e
  | _ => .bad
section
variable {X : Cx} {c : TC} {r : Ref} {W : WX} {o e a idx : Expr} {as : List Expr} {ek ea : EvE} {el : EvA} {i : Nat} {pos p1 p2 apos cpos : Pos}
end
end TreeL
end
section
namespace TreeL
open PySem PySem.Spec PyProof.Rows L2
section
variable {X : Cx} {c : TC} {r : Ref} {W : WX} {F : FSem} {k kc i : Nat} {f : Addr} {fd : FuncData} {ps : List Str} {x : Str} {p pos : Pos} {a : Expr}
@[simp] def rMakeL1 (kc : Nat) (F : FSem) (i : Nat) : EvR := fun env => match env[i]? with
  | some (some (.ow (.lst xs))) => (match F [.ow (.ins kc []), .t (.lst xs)] with
    | .ret (.t .non) (.ow (.ins k fs) :: _) => if noLstF fs then .ok (.ow (.ins k fs)) env else .bad
    | _ => .bad)
  | _ => .bad
end
end TreeL
end
section
namespace TreeL
open PySem PySem.Spec PyProof.Rows L2
section
variable {X : Cx} {c : TC} {r : Ref} {W : WX}
end
end TreeL
end
section

namespace TreeL
open PySem PySem.Spec PyProof.Rows L2 LamX
section
variable {X : Cx} {pins : List (Addr × Obj)} {σ : L2.St} {H : Hp} {s : Shared}
theorem lam_new {D : Addr → Prop} {k T : Addr} {ar : Arguments} {be : Expr} {sc : Scope} {lp : Pos} {Q E : Value → Shared → Prop} (J : Inv X pins σ H s) (tb : TabB X.base X.mg k T) (hk : X.env.code = .ref k)
    (ht : TabK D H T (X.env.qual ++ "<lambda>")) (hd : defaultsOf ar X.env = ([], [])) (hfr : ∀ y ∈ sc.names, y.2 = .free → ∃ c, X.env.cells.lookup y.1 = some c)
    (go : ∀ (f k' : Addr) (pm ct : Value) (H1 : Hp) (t : Shared), Inv X pins σ H1 t → (∀ b u, b ≠ T → H b = some u → H1 b = some u) → TabK (fun y => D y ∨ y = k') H1 T (X.env.qual ++ "<lambda>") →
      t.heap.get? f = some (PySem.W.kla_obj "<lambda>" (X.env.qual ++ "<lambda>") ar be sc (cloFrom X.env.cells sc.names []) pm k' ct) → H1 f = none → f ∉ frs X.stack → H1 k' = some (CodeO k' (X.env.qual ++ "<lambda>")) → (D k' ∨ H k' = none) → Q (.ref f) t) :
    wpAny (model X.prog X.w) X.A (eval (.Lambda ar be sc lp) X.env) Q E s := by
  obtain ⟨vs, hT, ok, all⟩ := ht
  refine PySem.W.kla_eval hd ?_
  have gT : s.heap.get? T = some { cls := .none, data := .fields vs } := J.hok T _ hT
  have away : ∀ f, s.heap.objs.size ≤ f → f ∉ frs X.stack := fun f hf m => by
    rcases List.mem_cons.mp (J.stkSub _ m) with e | e
    · have l := J.lt
      rw [← e] at l
      exact Nat.lt_irrefl _ (Nat.lt_of_lt_of_le l hf)
    · exact J.nofs hf e
  have bT : s.heap.BuiltinsAt X.mg T := tb.bm.keeps J.bk
  cases hc : codeAmong lp vs.toList with
  | some w =>
    obtain ⟨k', rfl, dk, hk'⟩ := all lp w hc
    refine PySem.W.kla_makeFunctionHit (mg := X.mg) (c := k) (P := T) (ps := vs) (closure_ok hfr) J.ok.glob (J.mod.glob.keeps J.bk) hk (tb.code.keeps J.bk) gT ok hc bT fun ct h' n up sz => ?_
    have J1 : Inv X pins σ H { s with heap := h'.push (PySem.W.kla_obj "<lambda>" (X.env.qual ++ "<lambda>") ar be sc (cloFrom X.env.cells sc.names []) ((X.mg "__name__").getD .none) k' ct), toks := n } :=
      J.kept fun b o e => Heap.get?_push_of_some _ (up b o e)
    exact go h'.objs.size k' ((X.mg "__name__").getD .none) ct H _ J1 (fun _ _ _ e => e)
      ⟨vs, hT, ok, fun q w hw => by
        obtain ⟨y, e, dy, hy⟩ := all q w hw
        exact ⟨y, e, .inl dy, hy⟩⟩ (Heap.get?_push_size _ rfl) (J.hok.fresh sz) (away _ sz) hk' (.inl dk)
  | none =>
    refine PySem.W.kla_makeFunction (mg := X.mg) (c := k) (P := T) (ps := vs) (closure_ok hfr) J.ok.glob (J.mod.glob.keeps J.bk) hk (tb.code.keeps J.bk) gT ok hc tb.gP bT fun k' ct h' n up ge lt rec_ tab => ?_
    obtain ⟨k2, oc, us, tk, e2, hoc, hd', hv⟩ := rec_
    cases e2
    have fk : H k' = none := J.hok.fresh ge
    have kT : T ≠ k' := fun z => by rw [z, fk] at hT; cases hT
    have sz : s.heap.objs.size ≤ h'.objs.size := Nat.le_trans ge (Nat.le_of_lt lt)
    have J1 := inv_table (t' := n) (more := #[rawInt lp.line, rawInt lp.col, .ref k']) (h' := h'.push (PySem.W.kla_obj "<lambda>" (X.env.qual ++ "<lambda>") ar be sc (cloFrom X.env.cells sc.names []) ((X.mg "__name__").getD .none) k' ct)) J hT
      (fun b o nb e => Heap.get?_push_of_some _ (up b o nb e)) (Heap.get?_push_of_some _ tab) ge ⟨oc, us, tk, Heap.get?_push_of_some _ hoc, hd', hv⟩
    have lst : (vs ++ #[rawInt lp.line, rawInt lp.col, Value.ref k']).toList = vs.toList ++ [rawInt lp.line, rawInt lp.col, .ref k'] := by simp
    have keep : ∀ b u, b ≠ T → H b = some u → upd (upd H T (.tbl (vs ++ #[rawInt lp.line, rawInt lp.col, .ref k']))) k' (CodeO k' (X.env.qual ++ "<lambda>")) b = some u := fun b u nb e => by
      have nk : b ≠ k' := fun z => by rw [z, fk] at e; cases e
      rw [upd_ne nk, upd_ne nb]
      exact e
    refine go h'.objs.size k' ((X.mg "__name__").getD .none) ct _ _ J1 keep ⟨_, by rw [upd_ne kT, upd_same], by rw [lst]; exact PySem.TriplesOk_snoc _ _ _ _ ok, fun q w hw => ?_⟩ (Heap.get?_push_size _ rfl) ?_ (away _ sz) upd_same (.inr fk)
    · rw [lst] at hw
      rcases among_app _ ok hw with z | z
      · obtain ⟨y, e, dy, hy⟩ := all q w z
        refine ⟨y, e, .inl dy, ?_⟩
        by_cases ny : y = T
        · rw [ny, hT] at hy
          exact absurd (Option.some.inj hy).symm (codeO_ne vs)
        · exact keep y _ ny hy
      · exact ⟨k', z, .inr rfl, upd_same⟩
    · rw [upd_ne (Nat.ne_of_gt lt), upd_ne (Nat.ne_of_gt (Nat.lt_of_lt_of_le (Heap.lt_size gT) sz))]
      exact J.hok.fresh sz
end

structure LamL (N : List Str) (js : List Nat) (sc scope : Scope) : Prop where
  kind : scope.kind = .function
  co : scope.isCoroutine = false
  gen : scope.isGenerator = false
  own : ∀ y ∈ scope.names, y.2 ≠ .cell ∧ (y.2 = .local → ∃ j ∈ js, N[j]? = some y.1)
  free : ∀ y ∈ scope.names, y.2 = .free → sc.names.lookup y.1 = some .cell ∨ sc.names.lookup y.1 = some .free
def lamLB (N : List Str) (js : List Nat) (sc scope : Scope) : Bool :=
  decide (scope.kind = .function) && !scope.isCoroutine && !scope.isGenerator && scope.names.all fun y => !decide (y.2 = .cell) && (!decide (y.2 = .local) || js.any fun j => N[j]? == some y.1) && (!decide (y.2 = .free) || decide (sc.names.lookup y.1 = some .cell) || decide (sc.names.lookup y.1 = some .free))
theorem lamL_by {N : List Str} {js : List Nat} {sc scope : Scope} (h : lamLB N js sc scope = true) : LamL N js sc scope := by
  unfold lamLB at h
  simp only [Bool.and_eq_true, Bool.or_eq_true, Bool.not_eq_true', decide_eq_true_eq, decide_eq_false_iff_not, List.all_eq_true, List.any_eq_true, beq_iff_eq] at h
  obtain ⟨⟨⟨h1, h2⟩, h3⟩, h4⟩ := h
  refine ⟨h1, h2, h3, fun y hy => ⟨(h4 y hy).1.1, fun e => ?_⟩, fun y hy e => ?_⟩
  · rcases (h4 y hy).1.2 with z | z
    · exact absurd e z
    · exact z
  · rcases (h4 y hy).2 with (z | z) | z
    · exact absurd e z
    · exact .inl z
    · exact .inr z
section
variable {X : Cx} {pins : List (Addr × Obj)} {σ : L2.St} {H HZ : Hp} {s t : Shared} {js : List Nat}
theorem LamL.cells {scope : Scope} (L : LamL X.N js X.env.scope scope) (ok : X.Ok) : ∀ y ∈ scope.names, y.2 = .free → ∃ c, X.env.cells.lookup y.1 = some c := fun y hy e => by
  rcases L.free y hy e with z | z
  · exact ok.has _ (.inl z)
  · exact ok.has _ (.inr z)
theorem lam_begin {A : Around} {l : List Env} {E : XK} {scope : Scope} {f k' : Addr} {h1 : Heap} {tk : Nat} (J : Inv X pins σ H s) (nd : X.N.Nodup) (L : LamL X.N js X.env.scope scope) (e0 : Env0 X.prog X.w X.K X.mg X.base A l t HZ) (hd : A.handled = none)
    (un : Un (frs X.stack) [] H HZ s.heap t.heap) (hns : h1.Ns t.heap.objs.size fun y => ([] : List (Str × Value)).reverse.lookup y) (kp : ∀ b o, t.heap.get? b = some o → h1.get? b = some o) :
    Inv (lamCx X A l t HZ E scope f k') [] (L2.wipe σ js) HZ { t with heap := h1, toks := tk } := by
  have has := L.cells J.ok
  have back : ∀ {y c}, (cloFrom X.env.cells scope.names []).lookup y = some c → X.env.cells.lookup y = some c := fun {y c} e => by
    rcases cloFrom_mem (PySem.mem_of_lookup e) with m | ⟨m, ec⟩
    · cases m
    · obtain ⟨c2, h2⟩ := has _ m rfl
      have h2 : X.env.cells.lookup y = some c2 := h2
      have : c = c2 := by rw [ec, h2] <;> rfl
      rw [this]
      exact h2
  have there : ∀ {y}, scope.names.lookup y = some .free → ∃ c, (cloFrom X.env.cells scope.names []).lookup y = some c := fun {y} hy =>
    mem_lookup (cloFrom_has (cells := X.env.cells) (acc := []) (PySem.mem_of_lookup hy))
  have cellOf : ∀ {c : Addr} {v : Option Value}, H c = none → s.heap.IsCell c v → h1.IsCell c v := fun {c v} n ⟨o, ho, hdt⟩ => by
    obtain ⟨sl, q⟩ := un.any ho n (by simp)
    exact ⟨_, kp _ _ q, hdt⟩
  have noA : ∀ b : Addr, b ∉ (lamCx X A l t HZ E scope f k').ex := fun b z => nomatch (show b ∈ ([] : List Addr) from z)
  have okc : (lamCx X A l t HZ E scope f k').Ok :=
    { mod := e0.mod, kind := L.kind, glob := rfl, blt := rfl, above := Nat.le_refl _
      inj := fun y z c e1 e2 => J.ok.inj y z c (back e1) (back e2)
      has := fun y hy => by
        have hy : scope.names.lookup y = some .cell ∨ scope.names.lookup y = some .free := hy
        rcases hy with z | z
        · exact absurd rfl (L.own _ (PySem.mem_of_lookup z)).1
        · exact there z
      cab := fun y c z _ => absurd (show false = true from z) (by simp)
      hd := fun _ => hd, frames := Around.frames_deeper e0.frames, stk := .inr ⟨rfl, rfl⟩, exf := fun b z => absurd z (noA b), bs := e0.bs, bsz := e0.bsz, noex := fun b _ _ => noA b,
      exfs := fun b z => absurd z (noA b), funs := e0.funs, frf := e0.frf }
  refine { ok := okc, os := rfl, bare := e0.bare, base := Un.kept kp, loc := ⟨_, hns, fun i y v e1 e2 e3 => ?_⟩, cell := fun y c e => ?_, free := e0.hok.fresh (Nat.le_refl _), freeC := fun y c e => ?_
           pin := fun q hq => absurd (show q ∈ ([] : List (Addr × Obj)) ++ [] from hq) (by simp), hok := e0.hok.kept kp, len := by rw [wipe_length]; exact J.len }
  · obtain ⟨e2', ni⟩ := wipe_some e2
    have e1 : X.N[i]? = some y := e1
    have e3 : Vis scope y := e3
    rcases e3 with z | z | z
    · obtain ⟨j, hj, hn⟩ := (L.own _ (PySem.mem_of_lookup z)).2 rfl
      have : i = j := by
        obtain ⟨l1, g1⟩ := List.getElem?_eq_some_iff.mp e1
        obtain ⟨l2, g2⟩ := List.getElem?_eq_some_iff.mp hn
        exact (List.getElem_inj nd).mp (g1.trans g2.symm)
      rw [this] at ni
      exact absurd hj ni
    · exact absurd rfl (L.own _ (PySem.mem_of_lookup z)).1
    · obtain ⟨m, hn, hl⟩ := J.loc
      have fr := L.free _ (PySem.mem_of_lookup z) rfl
      obtain ⟨u, ru, q⟩ := hl i y v e1 e2' (fr.elim (fun z => .inr (.inl z)) fun z => .inr (.inr z))
      obtain ⟨c2, h2⟩ := there z
      have c1 := back h2
      refine ⟨u, ru, .inr ⟨.inr z, c2, h2, ?_⟩⟩
      rcases q with ⟨z', _⟩ | ⟨_, c3, e', hc⟩
      · have z' : X.env.scope.names.lookup y = some .local := z'
        rcases fr with w | w <;> rw [show X.env.scope.names.lookup y = _ from w] at z' <;> cases z'
      · rw [c1] at e'
        cases e'
        exact cellOf (J.freeC y _ c1) hc
  · obtain ⟨w', z⟩ := J.cell y c (back e)
    exact ⟨w', cellOf (J.freeC y c (back e)) z⟩
  · obtain ⟨v, o, ho, hdt⟩ := J.cell y c (back e)
    exact un.free c o ho (J.freeC y c (back e)) (by simp)
theorem pe_ask {CXg : CXT} {Eg : XK} {Ng : List Str} {qg : Str} {sg : Scope} {g f k' : Addr} {cdg pm ct : Value} {ar : Arguments} {be : Expr} {scope : Scope} {k i : Nat} {a : Str} {pn : List (Addr × Obj)} {xe : Value → Shared → Prop} {W : WX} {tb : XK → TE} {p1 p2 : Pos}
    (J : Inv X pins σ H s) (nd : X.N.Nodup) (L : LamL X.N js X.env.scope scope) (hf : s.heap.get? f = some (PySem.W.kla_obj "<lambda>" (X.env.qual ++ "<lambda>") ar be scope (cloFrom X.env.cells scope.names []) pm k' ct)) (hfn : H f = none) (hfr : f ∉ frs X.stack)
    (hbind : bindArgs (PySem.W.kla_fn "<lambda>" (X.env.qual ++ "<lambda>") ar be scope (cloFrom X.env.cells scope.names []) pm (.ref k') ct) ⟨[], []⟩ = pure [])
    (tk : Takes ((cxOf CXg X.prog X.w X.K X.mg X.base Ng qg sg g cdg X.A X.stack s H Eg).tr pn xe) W) (hr : RoomG (k + 1) (X.A.deeper (envOfC qg sg s.heap.objs.size g cdg)))
    (hbody : ∀ (A : Around) (l : List Env) (t : Shared) (HZ : Hp) (E : XK), RoomG k (A.deeper (lamEnv X scope t.heap.objs.size f k')) → PE (lamCx X A l t HZ E scope f k') be (tb E))
    (hN : Ng[i]? = some a) (hv : Vis sg a) (hd : (a == ("__debug__" : Str)) = false := by decide) (hcd : (a == ("__classdict__" : Str)) = false := by decide) :
    PE ((cxOf CXg X.prog X.w X.K X.mg X.base Ng qg sg g cdg X.A X.stack s H Eg).tr pn xe) (.Call (.Name a p1) [] [] p2)
      (fun σZ HZ Q => σZ[i]? = some (some (.ref f)) ∧ HZ k' = some (CodeO k' (X.env.qual ++ "<lambda>")) ∧ tb (fun cls d H' => W cls d σZ H') (L2.wipe σ js) HZ Q) := by
  refine ⟨fun pinsZ sZ σZ HZ Q IZ ⟨hs, hc, ht⟩ => ?_⟩
  refine wpAny_Call_Name_kw (thn ((pe_var (pos := p1) (i := i) hN hv hd hcd).run pinsZ sZ σZ HZ (fun v H1 => v = .ref f ∧ H1 = HZ) IZ ⟨.ref f, hs, rfl, rfl⟩) fun u t ⟨v, H1, J1, r1, q1⟩ => ?_)
  obtain ⟨rfl, rfl⟩ := q1
  obtain rfl : u = Value.ref f := r1
  have at1 : t.heap.get? f = some (PySem.W.kla_obj "<lambda>" (X.env.qual ++ "<lambda>") ar be scope (cloFrom X.env.cells scope.names []) pm k' ct) := J1.base.keep f _ hf hfn hfr (fun z => absurd (show f ∈ ([] : List Addr) from z) (by simp))
  refine PySem.W.callWith_F0 ⟨_, _, _, _, at1⟩ ?_
  have un : Un (frs X.stack) [] H H1 s.heap t.heap := J1.base
  obtain ⟨⟨oc, vs, tk', hoc, hdc, hvc⟩, _, _⟩ := J1.hok k' _ hc
  have run : codeAny (model X.prog X.w) (X.A.deeper (envOfC qg sg s.heap.objs.size g cdg)) (.call (.ref f) ⟨[], []⟩) (CR (L2.CX X.prog X.w) (envOfC qg sg s.heap.objs.size g cdg :: X.stack) X.prog X.w H1 t Q fun cls d H' => W cls d σZ H') t := by
    refine PySem.W.kla_callFunE hr.rm.depth at1 rfl L.co L.gen rfl ⟨k', oc, vs, tk', rfl, hoc, hdc, hvc⟩ ?_
    rw [hbind]
    refine wpAny_pure (wpAny_newFunctionEnv (fun y hy => (L.own y hy).1) (fun y hy => absurd hy (by simp)) (fun h1 hns hsb => ⟨J1.nolimit.fresh _ hsb, ?_⟩) L.kind)
    show codeAny _ _ (.expr be (lamEnv X scope t.heap.objs.size f k')) _ _
    have kp : ∀ b o, t.heap.get? b = some o → h1.get? b = some o := fun b o e => hsb.extBut b o (Nat.ne_of_lt (Heap.lt_size e)) (Heap.get?_push_of_some _ e)
    have J2 : Inv (lamCx X (X.A.deeper (envOfC qg sg s.heap.objs.size g cdg)) (envOfC qg sg s.heap.objs.size g cdg :: X.stack) t H1 (fun cls d H' => W cls d σZ H') scope f k') [] (L2.wipe σ js) H1 { t with heap := h1, toks := t.toks + ([] : List (Str × Value)).length } :=
      lam_begin J nd L J1.env0 hr.rm.hd un hns kp
    refine PySem.W.kla_codeExpr (wpAny_mono ((hbody _ _ t H1 _ (hr.deeper _)).run [] _ _ H1 Q J2 ht) (fun v s' hq => ?_) fun e s' hq => hq)
    obtain ⟨w', H', J', rv, q⟩ := hq
    exact ⟨w', H', J'.os, J'.bare, J'.base, J'.hok, rv, q⟩
  refine wpAny_call (codeAny_mono run fun z s' hq => ?_)
  match z, hq with
  | .error e, hq => exact passAt tk σZ pinsZ H1 t e s' J1 hq
  | .ok (.ret u), hq => exact J1.after hq
  | .ok .next, hq => exact hq.elim
  | .ok .brk, hq => exact hq.elim
  | .ok .cont, hq => exact hq.elim
end

inductive WV where
  | val (t : PV) | exc (x : EX)
@[simp] def rCst (w : WV) : EvR := fun env => match w with
  | .val t => .ok (.t t) env
  | .exc x => .exc x env
@[simp] def hideA : Option Arg → Option Arg
  | some (.t t) => some (.t t)
  | _ => none
@[simp] def hideE (js : List Nat) (env : En) : En := (wipeE env js).map hideA
@[simp] def toldEnd (env : En) : SO → RE Arg
  | .rt (.t t) _ => .ok (.t t) env
  | _ => .bad
@[simp] def treeOf (e : En) : Vl → Option PV
  | .tr t => some t
  | .sl i => match e[i]? with
    | some (some (.t t)) => some t
    | _ => none
@[simp] def rTold (n : Nat) (js : List Nat) (B : EvR → EvS) (ev : EvE) : EvR := fun env => match (env[0]? : Option (Option Arg)) with
  | some (some (.ow (.scrT _))) => (match ev (hideE js env) with
    | .ok x e => (match treeOf e x with
      | some t => toldEnd env (B (rCst (.val t)) (List.replicate n none))
      | none => .bad)
    | .exc x _ => toldEnd env (B (rCst (.exc x)) (List.replicate n none))
    | .bad => .bad)
  | _ => .bad
theorem wipeE_join (env : En) (i : Nat) : ∀ js : List Nat, (wipeE env js)[i]?.join = if i ∈ js then none else env[i]?.join
  | [] => by simp
  | v :: vs => by
    have ih := wipeE_join env i vs
    show ((wipeE env vs).set v none)[i]?.join = _
    by_cases e : v = i
    · subst e
      rw [if_pos List.mem_cons_self]
      by_cases l : v < (wipeE env vs).length
      · simp [l]
      · rw [List.getElem?_eq_none (by simpa using Nat.le_of_not_lt l)]; rfl
    · rw [List.getElem?_set_ne e, ih]
      have : i ∈ v :: vs ↔ i ∈ vs := by simp [Ne.symm e]
      by_cases m : i ∈ vs
      · rw [if_pos m, if_pos (this.mpr m)]
      · rw [if_neg m, if_neg fun z => m (this.mp z)]
theorem hideE_join (js : List Nat) (env : En) (i : Nat) : (hideE js env)[i]?.join = hideA (if i ∈ js then none else env[i]?.join) := by
  rw [← wipeE_join]
  unfold hideE
  rw [List.getElem?_map]
  cases (wipeE env js)[i]? with
  | none => rfl
  | some a => cases a <;> rfl
theorem RS.hidden {c : TC} {r : Ref} {ads : Nat → List Addr} {G H G' H' : Hp} {σ : L2.St} {env : En} (js : List Nat) (R : RS c r ads G H σ env) (st : Step [] H G H' G') : RS c ⟨H', G', [], []⟩ (fun _ => []) G' H' (L2.wipe σ js) (hideE js env) where
  step := Step.refl st.sub1
  len := by
    unfold hideE
    rw [List.length_map, wipeE_length, wipe_length, R.len]
  slot := fun i => by
    rw [hideE_join]
    by_cases m : i ∈ js
    · rw [if_pos m]; exact rfl
    · rw [if_neg m, wipe_out m]
      have z := R.slot i
      cases q : env[i]?.join with
      | none => exact rfl
      | some a =>
        cases a with
        | ow o => exact rfl
        | t t =>
          rw [q] at z
          cases w : σ[i]?.join with
          | none => rw [w] at z; exact z.elim
          | some v => rw [w] at z; exact ⟨rfl, z.2.mono st.sub⟩
  own := fun i a h => nomatch h
  disj := fun i j a h => nomatch h
  pin := fun q h => nomatch h
section
variable {X : Cx} {c : TC} {r : Ref} {W : WX} {x a : Str} {g k : Addr} {kk n : Nat} {pg : Arguments} {bg : List Stmt} {sg : Scope} {fd : FuncData} {Ng : List Str} {ar : Arguments} {be : Expr} {scope : Scope} {js : List Nat} {B : EvR → EvS} {ev : EvE} {p lpos pos : Pos}
theorem tr_told (F : FunD X.K x x pg bg sg [] [] g fd) (S : FnScope Ng [a] sg) (hn : Ng.length = n) (hb : Binds X.K fd [a] []) (hg : Gl X x) (hm : X.mg x = some (.ref g)) (TB : TabB X.base X.mg k c.tab) (hk : X.env.code = .ref k) (hl : X.env.qual ++ "<lambda>" = c.lam)
    (hr : RoomG (kk + 2) X.A) (nd : X.N.Nodup) (L : LamL X.N js X.env.scope scope) (hdef : defaultsOf ar X.env = ([], []))
    (hbind : ∀ (q : Str) (cl : List (Str × Addr)) (pm cv ct : Value), bindArgs (PySem.W.kla_fn "<lambda>" q ar be scope cl pm cv ct) ⟨[], []⟩ = pure [])
    (hbody : ∀ (A : Around) (l : List Env) (t : Shared) (HZ : Hp) (E : XK) (f k' : Addr) (r' : Ref), let Y := lamCx X A l t HZ E scope f k'; RoomG kk Y.A → r'.pins.map Prod.fst = [] → Takes Y (fun cls d _ H' => E cls d H') → PE Y be (TEof c r' (fun cls d _ H' => E cls d H') ev))
    (htold : ∀ (cdv : Value) (s : Shared) (H : Hp) (E : XK) (rZ : Ref) (w : WV), let Z := cxOf (L2.CX X.prog X.w) X.prog X.w X.K X.mg X.base Ng x sg g cdv X.A X.stack s H E; RoomG (kk + 1) Z.A → rZ.pins.map Prod.fst = [0] → Takes Z (fun cls d _ H' => E cls d H') → PassesOwn (model X.prog X.w) Z.A Z.env Z.xe →
      (∀ (pn : List (Addr × Obj)) (xe : Value → Shared → Prop) (W' : WX) (p1 p2 : Pos), Takes (Z.tr pn xe) W' → PE (Z.tr pn xe) (.Call (.Name a p1) [] [] p2) (TRof c rZ W' (rCst w))) → PSs Z bg (TSof c rZ (fun cls d _ H' => E cls d H') (B (rCst w))))
    (hva : Vis sg a) (hdb : (x == ("__debug__" : Str)) = false := by decide) (hd : (a == ("__debug__" : Str)) = false := by decide) (hcd : (a == ("__classdict__" : Str)) = false := by decide) :
    PE X (.Call (.Name x p) [.Lambda ar be scope lpos] [] pos) (TRof c r W (rTold n js B ev)) := by
  refine ⟨fun pins s σ H Q J h => ?_⟩
  obtain ⟨ads, G, env, R, h⟩ := h
  unfold rTold at h
  split at h
  rotate_left
  · exact h.elim
  rename_i ns e0
  have hN0 : Ng[0]? = some a := by
    have := S.pre
    cases Ng with
    | nil => cases this
    | cons b l => simpa using this
  obtain ⟨v0, s0, p0, ev0, ad0, rep0, vs, hT, okT, all⟩ : ∃ v0, σ[0]? = some (some v0) ∧ ∃ p, v0 = .ref p ∧ OwRep c G H p (ads 0) (.scrT ns) := by
    have sl := R.slot 0
    rw [e0] at sl
    cases q : σ[0]? with
    | none => rw [q] at sl; exact sl.elim
    | some o =>
      rw [q] at sl
      cases o with
      | none => exact sl.elim
      | some v => exact ⟨v, rfl, sl⟩
  have gT : G c.tab = none := (R.own 0 c.tab (by rw [ad0]; exact List.mem_singleton.mpr rfl)).1
  have hTK : TabK (fun y => G y = some (CodeO y c.lam)) H c.tab (X.env.qual ++ "<lambda>") := by
    rw [hl]
    exact ⟨vs, hT, okT, fun q w hw => by
      obtain ⟨y, e1, e2⟩ := all q w hw
      exact ⟨y, e1, e2, R.sub _ _ e2⟩⟩
  refine wpAny_Call_Name_kw (ld_glob J hg hm ?_ hdb)
  refine PySem.W.callWith_K (h₀ := X.base) J.ok.mod.kin F.kp ?_ (by rfl) (by rfl)
  show wpAny _ _ (spliced ((false, eval (.Lambda ar be scope lpos) X.env) :: backTo pos (starEach [] X.env))) _ _ s
  refine Calls.spliced_cons (lam_new J TB hk hTK hdef (L.cells J.ok) fun f k' pm ct H1 s1 J1 keep T1 hf hfn hfr hco dk => ?_)
  refine Calls.spliced_nil ⟨J1.kIn, ?_⟩
  rw [hl] at hco T1
  -- the code object is known from now on
  have nk : ∀ y u, G y = some u → y ≠ c.tab := fun y u e z => by rw [z, gT] at e; cases e
  have sG : Sub G (upd G k' (CodeO k' c.lam)) := fun y u e => by
    by_cases z : y = k'
    · subst z
      have := keep y u (nk y u e) (R.sub _ _ e)
      rw [hco] at this
      rw [upd_same]
      exact this
    · rw [upd_ne z]; exact e
  have sH : Sub (upd G k' (CodeO k' c.lam)) H1 := fun y u e => by
    by_cases z : y = k'
    · subst z
      rw [upd_same] at e
      rw [hco]; exact e
    · rw [upd_ne z] at e
      exact keep y u (nk y u e) (R.sub _ _ e)
  obtain ⟨vs1, hT1, okT1, all1⟩ := T1
  have st : Step [c.tab] H G H1 (upd G k' (CodeO k' c.lam)) := ⟨sG, sH, fun y u e => by
      by_cases z : y = k'
      · subst z
        rw [upd_same] at e
        rcases dk with d | d
        · exact .inl (by rw [d]; exact e)
        · exact .inr (.inl d)
      · rw [upd_ne z] at e; exact .inl e, fun y u hy e => keep y u (fun z => hy (by rw [z]; exact List.mem_singleton.mpr rfl)) e, fun y e => by
      cases q : H y with
      | none => rfl
      | some u =>
        by_cases z : y = c.tab
        · rw [z, hT1] at e; cases e
        · rw [keep y u z q] at e; cases e⟩
  have hB : ∀ y ∈ [c.tab], (∃ i, Vl.sl i ∈ [Vl.sl 0] ∧ y ∈ ads i) ∨ H y = none := fun y hy => .inl ⟨0, List.mem_singleton.mpr rfl, by rw [ad0]; exact hy⟩
  have pv : VReps c σ G [Vl.sl 0] [v0] := ⟨v0, [], rfl, s0, rfl⟩
  have R1 := R.call (as := [.ow (.scrT ns)]) pv st hB ⟨⟨p0, ev0, ad0, rep0.mono sG, vs1, hT1, okT1, fun q w hw => by
    obtain ⟨y, e1, e2, _⟩ := all1 q w hw
    refine ⟨y, e1, ?_⟩
    rcases e2 with z | z
    · exact sG _ _ z
    · rw [z]; exact upd_same⟩, trivial⟩
  have pe : putArgs [Vl.sl 0] [Arg.ow (.scrT ns)] env = env := by
    show env.set 0 (some (.ow (.scrT ns))) = env
    apply List.ext_getElem?
    intro i
    rw [List.getElem?_set]
    by_cases z : 0 = i
    · subst z
      rw [if_pos rfl, e0, if_pos (List.getElem?_eq_some_iff.mp e0).1]
    · rw [if_neg z]
  rw [pe] at R1
  have n1 : Nxt ads G H ads (upd G k' (CodeO k' c.lam)) H1 := R.callNxt st hB
  generalize hG1 : upd G k' (CodeO k' c.lam) = G1 at R1 n1
  have kG : G1 k' = some (CodeO k' c.lam) := by rw [← hG1]; exact upd_same
  obtain ⟨oc, od, dV, kV, doc, pmv, an, cdv, ctv, osl, rfl, lk, hcd', _, _⟩ := F.ex
  have rc : codeAny (model X.prog X.w) X.A (.call (.ref g) ⟨[.ref f], []⟩) (CR (L2.CX X.prog X.w) X.stack X.prog X.w H1 s1 Q fun _ _ _ => False) s1 := by
    refine run_ofS (CX := L2.CX X.prog X.w) (N := Ng) (ps := [a]) (us := [.ref f]) (vs := [.ref f]) lk hcd' S hr.rm J1.env0 (hb s1 [.ref f] J1.kIn rfl) (.cons rfl .nil) rfl fun _ => ?_
    have hrZ : RoomG (kk + 1) (X.A.deeper (envOfC x sg s1.heap.objs.size g cdv)) := RoomG.deeper (k := kk + 1) hr _
    have fin : ∀ w : WV, ((toldEnd env (B (rCst w) (List.replicate n none))).Sat (fun o env' => ∀ ads' G' H' v, RS c r ads' G' H' σ env' → Nxt ads G H ads' G' H' → ResNew c r ads' G' H H' o v → Q v H') (XC c r W G σ)) →
        (∀ (pn : List (Addr × Obj)) (xe : Value → Shared → Prop) (W' : WX) (p1 p2 : Pos), Takes ((cxOf (L2.CX X.prog X.w) X.prog X.w X.K X.mg X.base Ng x sg g cdv X.A X.stack s1 H1 fun _ _ _ => False).tr pn xe) W' →
          PE ((cxOf (L2.CX X.prog X.w) X.prog X.w X.K X.mg X.base Ng x sg g cdv X.A X.stack s1 H1 fun _ _ _ => False).tr pn xe) (.Call (.Name a p1) [] [] p2) (TRof c ⟨H1, G1, [], [(0, .ref f, [])]⟩ W' (rCst w))) →
        ∃ t, PSs (cxOf (L2.CX X.prog X.w) X.prog X.w X.K X.mg X.base Ng x sg g cdv X.A X.stack s1 H1 fun _ _ _ => False) bg t ∧ t { nx := fun _ H' => Q .non H', rt := Q } (L2.start Ng [.ref f]) H1 := fun w hw ask => by
      refine ⟨_, htold cdv s1 H1 (fun _ _ _ => False) ⟨H1, G1, [], [(0, .ref f, [])]⟩ w hrZ rfl (takes_of rfl rfl rfl rfl) (passes_of rfl) ask, fun _ => [], G1, List.replicate n none, ?_, ?_⟩
      · refine ⟨Step.refl (R1.sub), ?_, fun i => ?_, (fun i y hy => absurd hy (by simp)), (fun i j y hy => absurd hy (by simp)), fun q hq => ?_⟩
        · have := congrArg List.length S.pre
          rw [List.length_take] at this
          simp only [List.length_singleton] at this
          unfold L2.start
          simp only [List.length_replicate, List.length_append, List.length_map, List.length_singleton]
          omega
        · have : (List.replicate n (none : Option Arg))[i]?.join = none := by
            rw [List.getElem?_replicate]
            split <;> rfl
          rw [this]
          exact rfl
        · rw [List.mem_singleton.mp hq]
          exact ⟨rfl, rfl⟩
      · cases q : B (rCst w) (List.replicate n none) with
        | rt o e =>
          rw [q] at hw
          cases o with
          | ow _ => exact hw.elim
          | t t =>
            exact fun ads' G' H' σ' v RZ s' rr => hw ads G' H' v (R1.next RZ.step) (n1.trans (Nxt.of RZ.step)) rr
        | nx e => rw [q] at hw; exact hw.elim
        | bk e => rw [q] at hw; exact hw.elim
        | ct e => rw [q] at hw; exact hw.elim
        | exc y e => rw [q] at hw; exact hw.elim
        | bad => rw [q] at hw; exact hw.elim
    have act : ∀ w : WV, (∀ (ads' : Nat → List Addr) (GZ HZ : Hp) (σZ : L2.St) (envZ : En) (W' : WX) (Q' : VK), RS c ⟨H1, G1, [], [(0, .ref f, [])]⟩ ads' GZ HZ σZ envZ → ((rCst w) envZ).Sat (fun o env' => ∀ ads2 G' H' v, RS c ⟨H1, G1, [], [(0, .ref f, [])]⟩ ads2 G' H' σZ env' → Nxt ads' GZ HZ ads2 G' H' → ResNew c ⟨H1, G1, [], [(0, .ref f, [])]⟩ ads2 G' HZ H' o v → Q' v H') (XC c ⟨H1, G1, [], [(0, .ref f, [])]⟩ W' GZ σZ) →
          (ev (hideE js env)).Sat (fun y e => ∀ ads2 G' H' v, RS c ⟨HZ, GZ, [], []⟩ ads2 G' H' (L2.wipe σ js) e → Nxt (fun _ => []) GZ HZ ads2 G' H' → VRep c (L2.wipe σ js) G' y v → Q' v H') (XC c ⟨HZ, GZ, [], []⟩ (fun cls d _ H' => W' cls d σZ H') GZ (L2.wipe σ js))) →
        ∀ (pn : List (Addr × Obj)) (xe : Value → Shared → Prop) (W' : WX) (p1 p2 : Pos), Takes ((cxOf (L2.CX X.prog X.w) X.prog X.w X.K X.mg X.base Ng x sg g cdv X.A X.stack s1 H1 fun _ _ _ => False).tr pn xe) W' →
          PE ((cxOf (L2.CX X.prog X.w) X.prog X.w X.K X.mg X.base Ng x sg g cdv X.A X.stack s1 H1 fun _ _ _ => False).tr pn xe) (.Call (.Name a p1) [] [] p2) (TRof c ⟨H1, G1, [], [(0, .ref f, [])]⟩ W' (rCst w)) := fun w hw pn xe W' p1 p2 tk => by
      refine PE.imp (pe_ask (i := 0) (W := W') (js := js) (tb := fun E σ H Q => ∃ r' : Ref, r'.pins.map Prod.fst = [] ∧ TEof c r' (fun cls d _ H' => E cls d H') ev σ H Q) J1 nd L hf hfn hfr (hbind _ _ _ _ _) tk hrZ
        (fun A l t HZ E hr2 => PE.ex fun r' hp => hbody A l t HZ E f k' r' hr2 hp (takes_of rfl rfl rfl rfl)) hN0 hva hd hcd) fun σZ HZ Q' hq => ?_
      obtain ⟨adsZ, GZ, envZ, RZ, hq⟩ := hq
      rw [hl]
      refine ⟨(RZ.pin (0, .ref f, []) List.mem_cons_self).1, RZ.step.keep k' _ (by simp) hco, ⟨HZ, GZ, [], []⟩, rfl, fun _ => [], GZ, hideE js env, R1.hidden js RZ.step, ?_⟩
      exact hw adsZ GZ HZ σZ envZ W' Q' RZ hq
    cases hev : ev (hideE js env) with
    | bad => simp only [hev] at h; exact h.elim
    | ok y e =>
      simp only [hev] at h
      cases ht : treeOf e y with
      | none => simp only [ht] at h; exact h.elim
      | some t =>
        simp only [ht] at h
        refine fin (.val t) h (act (.val t) fun adsZ GZ HZ σZ envZ W' Q' RZ hq => ?_)
        rw [hev]
        intro ads2 G' H' v R' _ vr
        refine hq adsZ G' H' v (RZ.next R'.step) (Nxt.of R'.step) ?_
        cases y with
        | tr u => cases ht; exact vr
        | sl i =>
          simp only [treeOf] at ht
          have z := R'.slot i
          rw [show (L2.wipe σ js)[i]? = some (some v) from vr] at z
          split at ht
          · rename_i u q
            cases ht
            rw [q] at z
            exact z.2
          · cases ht
    | exc y e =>
      simp only [hev] at h
      refine fin (.exc y) h (act (.exc y) fun adsZ GZ HZ σZ envZ W' Q' RZ hq => ?_)
      rw [hev]
      intro ads2 G' H' cls d R' s' rx
      exact hq adsZ G' H' cls d (RZ.next R'.step) R'.step.sub rx
  refine wpAny_call (codeAny_mono rc fun z s2 hq => ?_)
  match z, hq with
  | .error e, hq =>
    obtain ⟨_, _, _, _, _, _, _, _, _, _, _, _, bad⟩ := hq
    exact bad.elim
  | .ok (.ret u), hq => exact J1.after hq
  | .ok .next, hq => exact hq.elim
  | .ok .brk, hq => exact hq.elim
  | .ok .cont, hq => exact hq.elim
end

def okT (ps js : List Nat) (i : Nat) (env : En) : Bool := (!js.contains i && decide (i < env.length)) && (js.all (fun j => ps.contains j || match env[j]? with
    | some (some _) => true
    | _ => false) && (List.range env.length).all fun j => match env[j]? with
    | some (some (.ow _)) => js.contains j
    | _ => true)
@[simp] def sTryT (ps : List Nat) (i : Nat) (js ks yes : List Nat) (body : EvS) (suite : EX → EvS) : EvS := fun env => match body env with
  | .exc x e => if ks.contains x.k then (if yes.contains x.k then (if okT ps js i e then (match suite x (e.set i none) with
      | .nx e' => .nx (e'.set i none)
      | _ => .bad) else .bad) else .exc x e) else .bad
  | o => o
section
variable {c : TC} {r : Ref} {ads ads2 : Nat → List Addr} {G H G2 H2 : Hp} {σ σ2 : L2.St} {env env2 : En} {js pn ps : List Nat} {i : Nat} {a : Addr}
theorem okT_own (h : okT ps js i env = true) {j : Nat} {o : OS} (e : env[j]? = some (some (.ow o))) : j ∈ js := by
  unfold okT at h
  simp only [Bool.and_eq_true] at h
  have lt := (List.getElem?_eq_some_iff.mp e).1
  have z := List.all_eq_true.mp h.2.2 j (List.mem_range.mpr lt)
  rw [e] at z
  simpa using z
theorem okT_i (h : okT ps js i env = true) : i ∉ js := by
  unfold okT at h
  simp only [Bool.and_eq_true, Bool.not_eq_true'] at h
  intro z
  have := h.1.1
  rw [List.contains_iff_mem.mpr z] at this
  cases this
theorem okT_lt (h : okT ps js i env = true) : i < env.length := by
  unfold okT at h
  simp only [Bool.and_eq_true] at h
  exact of_decide_eq_true h.1.2
theorem okT_val (R : RS c r ads G H σ env) (hps : (ps.all fun j => pn.contains j) = true) (hp : r.pins.map Prod.fst = pn) (h : okT ps js i env = true) {j : Nat} (hj : j ∈ js) : ∃ v, σ[j]? = some (some v) := by
  unfold okT at h
  simp only [Bool.and_eq_true] at h
  have z := List.all_eq_true.mp h.2.1 j hj
  rcases Bool.or_eq_true_iff.mp z with y | y
  · have m := List.contains_iff_mem.mp (List.all_eq_true.mp hps j (List.contains_iff_mem.mp y))
    rw [← hp] at m
    obtain ⟨q, hq, rfl⟩ := List.mem_map.mp m
    exact ⟨_, (R.pin q hq).1⟩
  · split at y
    · rename_i x q
      have s := R.slot j
      rw [q] at s
      cases w : σ[j]? with
      | none => rw [w] at s; cases x <;> exact (show False from s).elim
      | some u =>
        cases u with
        | none => rw [w] at s; cases x <;> exact (show False from s).elim
        | some v => exact ⟨v, rfl⟩
    · cases y
theorem RS.intoT (R : RS c r ads G H σ env) (h_1 : ∀ j o, env[j]? = some (some (.ow o)) → j ∈ js) (h_2 : i ∉ js) (h_3 : i < env.length) (h_4 : ∀ j ∈ js, ∃ v, σ[j]? = some (some v)) : RS c (refS H G js ads σ i a) (fun j => if j = i then [] else ads j) G H (σ.set i (some (.ref a))) (env.set i none) where
  step := Step.refl R.sub
  len := by simp [R.len]
  slot := fun j => by
    by_cases h : j = i
    · subst h
      rw [if_pos rfl]
      have : (env.set j none)[j]?.join = none := by
        have lt := h_3
        simp [lt]
      rw [this]
      exact rfl
    · rw [if_neg h, join_set_ne (Ne.symm h), join_set_ne (Ne.symm h)]
      exact R.slot j
  own := fun j b hb => by
    by_cases h : j = i
    · subst h; rw [if_pos rfl] at hb; cases hb
    · rw [if_neg h] at hb
      refine ⟨(R.own j b hb).1, .inl ?_⟩
      have hj : j ∈ js := by
        have z := R.slot j
        cases q : env[j]? with
        | none => rw [q] at z; rw [show ads j = [] from z] at hb; cases hb
        | some y =>
          rw [q] at z
          cases y with
          | none => rw [show ads j = [] from z] at hb; cases hb
          | some y =>
            cases y with
            | ow o => exact h_1 j o q
            | t t =>
              cases w : σ[j]?.join with
              | none => rw [w] at z; exact (show False from z).elim
              | some v => rw [w] at z; rw [z.1] at hb; cases hb
      refine ⟨?_, ?_⟩
      · rw [refS_pins]
        exact List.mem_cons_of_mem _ hj
      · exact List.mem_flatten.mpr ⟨ads j, List.mem_map_of_mem hj, hb⟩
  disj := fun j k b h1 h2 => by
    by_cases e1 : j = i
    · rw [if_pos e1] at h1; cases h1
    · by_cases e2 : k = i
      · rw [if_pos e2] at h2; cases h2
      · rw [if_neg e1] at h1; rw [if_neg e2] at h2
        exact R.disj j k b h1 h2
  pin := fun q hq => by
    rcases List.mem_cons.mp hq with rfl | hq
    · refine ⟨?_, by simp⟩
      have lt : i < σ.length := by rw [← R.len]; exact h_3
      show (σ.set i (some (.ref a)))[i]? = _
      simp [lt]
    · obtain ⟨j, hj, rfl⟩ := List.mem_map.mp hq
      have hne : j ≠ i := fun z => h_2 (z ▸ hj)
      refine ⟨?_, by show (if j = i then [] else ads j) = ads j; rw [if_neg hne]⟩
      show (σ.set i (some (.ref a)))[j]? = some (some ((σ[j]?.join).getD .non))
      rw [List.getElem?_set_ne (Ne.symm hne)]
      obtain ⟨v, hv⟩ := h_4 j hj
      rw [hv]
      rfl
theorem RS.outT (R : RS c r ads G H σ env) (hp : r.pins.map Prod.fst = pn) (hpi : pn.contains i = false) (hjs : (pn.all fun j => js.contains j) = true)
    (R2 : RS c (refS H G js ads σ i a) ads2 G2 H2 σ2 env2) : RS c r (fun j => if j = i then [] else ads2 j) G2 H2 (σ2.set i none) (env2.set i none) where
  step := R.step.trans R2.step fun x hx => by
    obtain ⟨l, hl, hx⟩ := List.mem_flatten.mp hx
    obtain ⟨j, hj, rfl⟩ := List.mem_map.mp hl
    rcases (R.own j x hx).2 with z | z
    · exact .inl z.2
    · exact .inr z
  len := by simp [R2.len]
  slot := fun j => by
    by_cases h : j = i
    · subst h
      rw [if_pos rfl]
      have e0 : (env2.set j none)[j]?.join = none := by
        by_cases lt : j < env2.length
        · simp [lt]
        · rw [List.getElem?_eq_none (by simpa using Nat.le_of_not_lt lt)]; rfl
      rw [e0]
      exact rfl
    · rw [if_neg h, join_set_ne (Ne.symm h), join_set_ne (Ne.symm h)]
      exact R2.slot j
  own := fun j b hb => by
    by_cases h : j = i
    · subst h; rw [if_pos rfl] at hb; cases hb
    · rw [if_neg h] at hb
      refine ⟨(R2.own j b hb).1, ?_⟩
      rcases (R2.own j b hb).2 with z | z
      · have hj : j ∈ js := by
          have := z.1
          rw [refS_pins] at this
          rcases List.mem_cons.mp this with y | y
          · exact absurd y h
          · exact y
        have hq := (R2.pin _ (List.mem_cons_of_mem _ (List.mem_map_of_mem (f := fun j => (j, (σ[j]?.join).getD V.non, ads j)) hj))).2
        rw [show ads2 j = ads j from hq] at hb
        exact (R.own j b hb).2
      · exact .inr (R.step.there b z)
  disj := fun j k b h1 h2 => by
    by_cases e1 : j = i
    · rw [if_pos e1] at h1; cases h1
    · by_cases e2 : k = i
      · rw [if_pos e2] at h2; cases h2
      · rw [if_neg e1] at h1; rw [if_neg e2] at h2
        exact R2.disj j k b h1 h2
  pin := fun q hq => by
    have hm : q.1 ∈ pn := by rw [← hp]; exact List.mem_map_of_mem hq
    have hne : q.1 ≠ i := fun z => by
      rw [z] at hm
      rw [List.contains_iff_mem.mpr hm] at hpi
      cases hpi
    have hj : q.1 ∈ js := List.contains_iff_mem.mp (List.all_eq_true.mp hjs q.1 hm)
    have z := R2.pin _ (List.mem_cons_of_mem _ (List.mem_map_of_mem (f := fun j => (j, (σ[j]?.join).getD V.non, ads j)) hj))
    have w := R.pin q hq
    refine ⟨?_, ?_⟩
    · rw [List.getElem?_set_ne (Ne.symm hne), show σ2[q.1]? = some (some ((σ[q.1]?.join).getD .non)) from z.1, w.1]
      rfl
    · show (if q.1 = i then [] else ads2 q.1) = q.2.2
      rw [if_neg hne, show ads2 q.1 = ads q.1 from z.2, w.2]
end
section
variable {X : Cx} {c : TC} {r : Ref} {W : WX} {xs : EvS} {ys : EX → EvS} {i kx : Nat} {js ks yes pn ps : List Nat} {body suite : List Stmt} {b₀ : Stmt} {n x : Str} {np pos pos' : Pos}
theorem tryT_core {D : Ends} {σ : L2.St} {H : Hp} {wE : WX} (hps : (ps.all fun j => pn.contains j) = true) (hp : r.pins.map Prod.fst = pn) (hpi : pn.contains i = false) (hjs : (pn.all fun j => js.contains j) = true)
    (hw : ∀ cls d σ' H' (y : EX), cls = .ref (c.C y.k) → ks.contains y.k = true → (yes.contains y.k = true → ∀ a, H' a = none → tSuite c i js ks ys a cls d { nx := fun σ' H' => D.nx (σ'.set i none) H', rt := D.rt, bk := fun σ' H' => D.bk (σ'.set i none) H', ct := fun σ' H' => D.ct (σ'.set i none) H' } (σ'.set i (some (.ref a))) H') → (yes.contains y.k = false → W cls d σ' H') → wE cls d σ' H')
    (h : TSof c r W (sTryT ps i js ks yes xs ys) D σ H) : TSof c r wE xs D σ H := by
  obtain ⟨ads, G, env, R, h⟩ := h
  refine ⟨ads, G, env, R, ?_⟩
  unfold sTryT at h
  cases q : xs env with
  | nx e => rw [q] at h; exact h
  | rt t e => rw [q] at h; exact h
  | bk e => rw [q] at h; exact h
  | ct e => rw [q] at h; exact h
  | bad => rw [q] at h; exact h
  | exc y e =>
    rw [q] at h
    dsimp only at h
    intro ads' G' H' σ' cls d R' s' rx
    by_cases hk : ks.contains y.k = true
    rotate_left
    · rw [if_neg hk] at h; exact h.elim
    rw [if_pos hk] at h
    refine hw cls d σ' H' y rx.1 hk (fun hy a ha => ?_) (fun hy => ?_)
    · rw [if_pos hy] at h
      by_cases ok : okT ps js i e = true
      rotate_left
      · rw [if_neg ok] at h; exact h.elim
      rw [if_pos ok] at h
      refine ⟨(y, refS H' G' js ads' σ' i a), ⟨rx, List.mem_cons_self, refS_pins, hk⟩, _, G', _, R'.intoT (fun j o => okT_own ok) (okT_i ok) (okT_lt ok) (fun j hj => okT_val R' hps hp ok hj), ?_⟩
      cases q2 : ys y (e.set i none) with
      | nx e' =>
        rw [q2] at h
        intro ads2 G2 H2 σ2 R2 s2
        exact h _ G2 H2 _ (R'.outT hp hpi hjs R2) (s'.trans s2)
      | rt t e => rw [q2] at h; exact h.elim
      | bk e => rw [q2] at h; exact h.elim
      | ct e => rw [q2] at h; exact h.elim
      | bad => rw [q2] at h; exact h.elim
      | exc y e => rw [q2] at h; exact h.elim
    · rw [hy, if_neg Bool.false_ne_true] at h
      exact h ads' G' H' σ' cls d R' s' rx
theorem ts_tryT (hs : X.stack = X.env :: X.outer) (hf : X.env.frame = some X.env.locals) (hN : X.N.Nodup) (hi : X.N[i]? = some n) (hln : X.env.kindOf n = some .local) (hc : Names X x (.ref (c.C kx))) (tk : Takes X W)
    (hps : (ps.all fun j => pn.contains j) = true) (hp : r.pins.map Prod.fst = pn) (hpi : pn.contains i = false) (hjs : (pn.all fun j => js.contains j) = true) (hks : ∀ k ∈ ks, PySem.W.exmOne X.K (.ref (c.C k)) (.ref (c.C kx)) = some (yes.contains k))
    (hb : ∀ (W' : WX) (pn' : List (Addr × Obj)) (xe : Value → Shared → Prop), Takes (X.tr pn' xe) W' → PassesOwn (model X.prog X.w) X.A X.env xe → PSs (X.tr pn' xe) body (TSof c r W' xs))
    (hsu : ∀ (a : Addr) (oe : Obj) (cls : Value) (d : Option Addr) (pn' : List (Addr × Obj)) (y : EX) (r' : Ref), Zc cls d oe → (∃ vs, oe.data = .fields vs) → RepX c r'.G0 y cls d r'.H0 → (i, V.ref a, []) ∈ r'.pins → r'.pins.map Prod.fst = i :: js → ks.contains y.k = true → PSs (X.suite a ((a, oe) :: pn')) (b₀ :: suite) (TSof c r' W0 (ys y))) :
    PS X (.Try body [.ExceptHandler (some (.Name x np)) (some n) (b₀ :: suite) pos'] [] [] pos) (TSof c r W (sTryT ps i js ks yes xs ys)) := by
  refine PS.imp (ps_try_as (tb := fun W' => TSof c r W' xs) (ts := tSuite c i js ks ys) hs hf hN hi hln hc tk hb (fun a oe cls d pn' z zf => PSs.ex fun q hq => hsu a oe cls d pn' q.1 q.2 z zf hq.1 hq.2.1 hq.2.2.1 hq.2.2.2)) fun D σ H h => ?_
  refine tryT_core (wE := wAs X.K (.ref (c.C kx)) i (tSuite c i js ks ys) W D) hps hp hpi hjs (fun cls d σ' H' y hcls hk h1 h2 => ?_) h
  refine ⟨yes.contains y.k, by rw [hcls]; exact hks _ (List.contains_iff_mem.mp hk), fun b a ha => h1 b a ha, fun b => h2 b⟩
end
end TreeL
end
section
namespace TreeL
open PySem PySem.W PySem.Calls PyProof.Rows HandSHeadRun
noncomputable section

section
variable (st : SharedT → Thread → Option (SharedT × Thread)) (n0 : Nat) (ann : Option Value)
def goK : Nat → SharedT → Thread → Option (SharedT × Thread)
  | 0, s, t => some (s, t)
  | m + 1, s, t => match through t with
    | true => none
    | false => match stepOk n0 ann t with
      | false => none
      | true => match st s t with
        | some (s', t') => frS s' fun s' => goK m s' t'
        | none => none
def goS : Nat → SharedT → Thread → Option (Flow × SharedT × Code × Pos)
  | 0, _, _ => none
  | m + 1, s, t => match endAt 1 t with
    | some f => some (f, s, t.code, t.pos)
    | none => match stepOk n0 ann t with
      | false => none
      | true => match st s t with
        | some (s', t') => frS s' fun s' => goS m s' t'
        | none => none
end
section
variable {tb : String → Option Builtin} {p : Program} {w : World} {n0 : Nat} {ann : Option Value}
theorem goK_ok : ∀ {m : Nat} {s s' : SharedT} {t t' : Thread}, goK (stepT (denote tb) p w) n0 ann m s t = some (s', t') → topGo tb p w n0 ann m s.abs t = some (s'.abs, t')
  | 0, _, _, _, _, h => by cases h; rfl
  | m + 1, s, s', t, t', h => by
    have h1 : (match through t with
      | true => none
      | false => match stepOk n0 ann t with
        | false => none
        | true => match stepT (denote tb) p w s t with
          | some (s', t') => frS s' fun s' => goK (stepT (denote tb) p w) n0 ann m s' t'
          | none => none) = some (s', t') := h
    unfold topGo
    cases ht : through t with
    | true => rw [ht] at h1; cases h1
    | false =>
      rw [ht] at h1
      cases hk : stepOk n0 ann t with
      | false => rw [hk] at h1; cases h1
      | true =>
        rw [hk] at h1
        have h2 : (match stepT (denote tb) p w s t with
          | some (s', t') => frS s' fun s' => goK (stepT (denote tb) p w) n0 ann m s' t'
          | none => none) = some (s', t') := h1
        cases hs : stepT (denote tb) p w s t with
        | none => rw [hs] at h2; cases h2
        | some r =>
          obtain ⟨s2, t2⟩ := r
          rw [hs] at h2
          have h3 : (frS s2 fun s' => goK (stepT (denote tb) p w) n0 ann m s' t2) = some (s', t') := h2
          rw [frS_eq] at h3
          have q := goK_ok h3
          show (match step (denote tb) p w s.abs t with
            | .go s' t' => topGo tb p w n0 ann m s' t'
            | .halt _ _ => none) = some (s'.abs, t')
          rw [stepT_spec hs]
          exact q
theorem goS_ok : ∀ {m : Nat} {s s' : SharedT} {t : Thread} {f : Flow} {c : Code} {q : Pos}, goS (stepT (denote tb) p w) n0 ann m s t = some (f, s', c, q) → segRun tb p w n0 ann 1 m s.abs t = some (f, s'.abs, c, q)
  | 0, _, _, _, _, _, _, h => by cases h
  | m + 1, s, s', t, f, c, q, h => by
    have h1 : (match endAt 1 t with
      | some f => some (f, s, t.code, t.pos)
      | none => match stepOk n0 ann t with
        | false => none
        | true => match stepT (denote tb) p w s t with
          | some (s', t') => frS s' fun s' => goS (stepT (denote tb) p w) n0 ann m s' t'
          | none => none) = some (f, s', c, q) := h
    unfold segRun
    cases he : endAt 1 t with
    | some x => rw [he] at h1; cases h1; rfl
    | none =>
      rw [he] at h1
      cases hk : stepOk n0 ann t with
      | false => rw [hk] at h1; cases h1
      | true =>
        rw [hk] at h1
        have h2 : (match stepT (denote tb) p w s t with
          | some (s', t') => frS s' fun s' => goS (stepT (denote tb) p w) n0 ann m s' t'
          | none => none) = some (f, s', c, q) := h1
        cases hs : stepT (denote tb) p w s t with
        | none => rw [hs] at h2; cases h2
        | some r =>
          obtain ⟨s2, t2⟩ := r
          rw [hs] at h2
          have h3 : (frS s2 fun s' => goS (stepT (denote tb) p w) n0 ann m s' t2) = some (f, s', c, q) := h2
          rw [frS_eq] at h3
          have z := goS_ok h3
          show (match step (denote tb) p w s.abs t with
            | .go s' t' => segRun tb p w n0 ann 1 m s' t'
            | .halt _ _ => none) = some (f, s'.abs, c, q)
          rw [stepT_spec hs]
          exact z
end

def exQ : List Stmt → Env → Sem Flow := PySem.W.Fast.tw12563942051412417395
theorem exQ_eq : @PySem.execs = exQ := PySem.W.Fast.te12563942051412417395
def blQ : List Stmt → Env → Sem Unit := PySem.W.Fast.tw1066825118222455980
theorem blQ_eq : @PySem.blockStart = blQ := PySem.W.Fast.te1066825118222455980
def stQ (p : Program) (w : World) : SharedT → Thread → Option (SharedT × Thread) := stepQ (denQ tabQ) p w
theorem stQ_eq (p : Program) (w : World) : stepT (denote treeTable) p w = stQ p w := by
  unfold stQ
  rw [stepQ_eq, denQ_eq, tabQ_eq]
def thP (l : List Stmt) (env : Env) (c : Code) (p q : Pos) : Thread := ⟨(exQ l env).wrap doneF deadEnd id id, c, p, [topFrame q]⟩
def thB (b : List Stmt) (env : Env) (c : Code) (p q : Pos) : Thread := ⟨(blQ b env).wrap (fun _ => doneF .next) deadEnd id id, c, p, [topFrame q]⟩
def thR (l : List Stmt) (env : Env) (c : Code) (p q : Pos) : Thread := ⟨(exQ l env).wrap doneF (leaveH env) id id, c, p, [topFrame q]⟩
theorem thP_eq (l : List Stmt) (env : Env) (c : Code) (p q : Pos) : thP l env c p q = piecesOf l env c p [topFrame q] := by
  unfold thP
  rw [← exQ_eq]
theorem thB_eq (l : List Stmt) (env : Env) (c : Code) (p q : Pos) : thB l env c p q = blockOf l env c p [topFrame q] := by
  unfold thB
  rw [← blQ_eq]
theorem thR_eq (l : List Stmt) (env : Env) (c : Code) (p q : Pos) : thR l env c p q = restOf l env c p [topFrame q] := by
  unfold thR restOf
  rw [← exQ_eq]

section
variable {r : OpenRow} {q : Program} {H : Hook} {ob : SharedT → H.α} {loose : List PySem.Str} {w : World} {n0 : Nat} {ann : Option Value}
def lookL (r : OpenRow) (q : Program) (H : Hook) (ob : SharedT → H.α) (loose : List PySem.Str) (w : World) (s : SharedT) :=
  (looksF r.prog (boot_heap w.params) s.abs, seenQ q loose (importedModules r.prog.main.body) (fun s => xlAt q [] s && recOk r.toRowW.records s) s.abs, ob s)
def LeftL (r : OpenRow) (q : Program) (H : Hook) (ob : SharedT → H.α) (loose : List PySem.Str) (w : World) (n0 : Nat) (ann : Option Value) (N : Nat) (S : Shared) (t : Thread) : Prop :=
  ∃ s : SharedT, topRun treeTable r.prog w n0 ann N S t = some s.abs ∧ lookL r q H ob loose w s = (true, openGood q loose, H.val w)
theorem left_end {M : Nat} {S S' : SharedT} {t : Thread} (h : goF (stQ r.prog w) n0 ann M S t = some S') (l1 : looksF r.prog (boot_heap w.params) S'.abs = true)
    (l2 : seenQ q loose (importedModules r.prog.main.body) (fun s => xlAt q [] s && recOk r.toRowW.records s) S'.abs = openGood q loose) (l3 : ob S' = H.val w) :
    LeftL r q H ob loose w n0 ann M S.abs t := by
  rw [← stQ_eq] at h
  refine ⟨S', goF_ok h, ?_⟩
  unfold lookL
  rw [l1, l2, l3]
theorem left_seg {k n N : Nat} {S S' : SharedT} {l : List Stmt} {env : Env} {c : Code} {p p' f : Pos} (h : goS (stQ r.prog w) n0 ann n S (thP (l.take k) env c p f) = some (.next, S', c, p'))
    (z : LeftL r q H ob loose w n0 ann N S'.abs (thR (l.drop k) env c p' f)) : LeftL r q H ob loose w n0 ann (n + N) S.abs (thR l env c p f) := by
  obtain ⟨s, hs, hv⟩ := z
  rw [← stQ_eq] at h
  have g := goS_ok h
  rw [thP_eq] at g
  rw [thR_eq] at hs
  have u := piece_app g hs
  rw [List.take_append_drop] at u
  exact ⟨s, by rw [thR_eq]; exact u, hv⟩
theorem left_block {n N : Nat} {S S' : SharedT} {b : List Stmt} {env : Env} {c : Code} {p p' f : Pos} (h : goS (stQ r.prog w) n0 ann n S (thB b env c p f) = some (.next, S', c, p'))
    (z : LeftL r q H ob loose w n0 ann N S'.abs (thR b env c p' f)) : LeftL r q H ob loose w n0 ann (n + N) S.abs ⟨denote treeTable (.body b env), c, p, [topFrame f]⟩ := by
  obtain ⟨s, hs, hv⟩ := z
  rw [← stQ_eq] at h
  have g := goS_ok h
  rw [thB_eq] at g
  rw [thR_eq] at hs
  exact ⟨s, piece_block g hs, hv⟩
theorem left_pre {n N : Nat} {S S' : SharedT} {t : Thread} {b : List Stmt} {env : Env} {c : Code} {p f : Pos} (h : goK (stQ r.prog w) n0 ann n S t = some (S', ⟨denQ tabQ (.body b env), c, p, [topFrame f]⟩))
    (z : LeftL r q H ob loose w n0 ann N S'.abs ⟨denote treeTable (.body b env), c, p, [topFrame f]⟩) : LeftL r q H ob loose w n0 ann (n + N) S.abs t := by
  obtain ⟨s, hs, hv⟩ := z
  rw [← stQ_eq] at h
  have g := goK_ok h
  rw [← tabQ_eq, ← denQ_eq] at g
  exact ⟨s, go_top g hs, hv⟩
theorem left_boot {M n : Nat} {T : World → PySem.W.BT} (hb : ∀ w : World, putAll (boot_heap w.params).objs.toList .nil 0 = some (T w, n))
    (ha : ∀ w : World, bootAnn w = ann) (ho : ∀ s : SharedT, ob s = H.obs s.abs)
    (e : opening r.prog = plainProg r.prog.main.scope.names) (f : ∀ s, fenceModules? r.prog s = some s)
    (z : ∀ (w : World) (os : OsState), LeftL r q H ob loose w n ann M (bootT w os (T w, n)).abs (topStub r.prog)) :
    LeftO r.prog q loose (fun s => xlAt q [] s && recOk r.toRowW.records s) H.obs H.val (M + 600) true := fun w => by
  obtain ⟨⟨h, gs, d, k, os⟩, a, a'⟩ := Option.map_eq_some_iff.mp (boot_open e (show Nat.ble 600 (M + 600) = true from Nat.ble_eq_true_of_le (by omega)) f w)
  obtain ⟨rfl, rfl, rfl, rfl⟩ : h = boot_heap w.params ∧ gs = Array.mk [] ∧ d = boot_drawn ∧ k = boot_toks := by simpa using a'
  obtain ⟨s, hs, hv⟩ := z w os
  have eh := putAll_heap (hb w)
  have en : (boot_heap w.params).objs.size = n := by
    rw [← eh]
    exact absHeap_size _ n _
  have eb : (bootT w os (T w, n)).abs = ⟨boot_heap w.params, #[], boot_drawn, boot_toks, os⟩ := by
    show (⟨absHeap (T w) n (boot_heap w.params).life, #[], boot_drawn, boot_toks, os⟩ : Shared) = _
    rw [eh]
  rw [eb] at hs
  have r' := topRun_mono (M + 600 - M) _ _ _ _ hs
  rw [show M + (M + 600 - M) = M + 600 by omega] at r'
  obtain ⟨l1, l2, l3⟩ : _ ∧ _ ∧ _ := by simpa only [lookL, Prod.mk.injEq] using hv
  have l1' : (staticsOk (importedModules r.prog.main.body) (boot_heap w.params) s.abs.heap && namesBound r.prog s.abs.heap && gensDone s.abs && laidKept (boot_heap w.params) s.abs.heap) = true := l1
  have t : topFrom treeTable r.prog w (M + 600) ⟨boot_heap w.params, Array.mk [], boot_drawn, boot_toks, os⟩ = some s.abs := by
    unfold topFrom
    dsimp only
    rw [boot_ns]
    show (topRun treeTable r.prog w (boot_heap w.params).objs.size (bootAnn w) (M + 600) ⟨boot_heap w.params, #[], boot_drawn, boot_toks, os⟩ (topStub r.prog)).bind _ = _
    rw [en, ha w, r']
    show (match staticsOk (importedModules r.prog.main.body) (boot_heap w.params) s.abs.heap && namesBound r.prog s.abs.heap && gensDone s.abs && laidKept (boot_heap w.params) s.abs.heap with | true => some s.abs | false => none) = _
    rw [l1']
  unfold openEnds
  rw [a]
  show (topFrom treeTable r.prog w (M + 600) _).map _ = _
  rw [t]
  refine congrArg some (Prod.ext ?_ ?_)
  · exact (seenQ_eq ..).trans l2
  · exact (ho s).symm.trans l3
end
theorem all_cut {α : Type} {p : α → Bool} (k : Nat) {l : List α} (a : (l.take k).all p = true) (b : (l.drop k).all p = true) : l.all p = true := by
  rw [← List.take_append_drop k l, List.all_append, a, b]
  rfl
theorem saysT_of {fs : List (PySem.W.Frag → Bool)} {fn : List He5.DefA} {K : PySem.W.Frag} (a : (fs.all fun f => f K) = true) (b : (fn.all fun d => d.ok K) = true)
    (c : fn.map (fun d => He5.fnA K (d.at_ K)) = fn.map He5.DefA.val) : SaysT fs fn K := by
  unfold SaysT obsT valT
  rw [a, b, c]
  rfl
theorem head_parts {r : OpenRow} {q : Program} {H : Hook} {loose : List PySem.Str} {M : Nat} {d : DefRec} {kwd : List (PySem.Str × PySem.Expr)}
    (left : LeftO r.prog q loose (fun s => xlAt q [] s && recOk r.toRowW.records s) H.obs H.val M true)
    (hdef : defOf q r.name = some (d, kwd)) (hp : r.prog.theDef r.name = some (d.params, d.body, d.scope)) (hk : kwWritten? d.params.kwonlyargs d.params.kw_defaults = some kwd)
    (hwr : (!r.writes || r.records.isEmpty) = true) (k1 : r.wellSaid = true) (ok : (chainsOk q && opensWell r.prog && (frees r.toRowW && r.within.isEmpty)) = true) (hb : r.prog.bare) (hw : r.toRowW.promised)
    (call : WalkO q loose (XL q []) H.says r.toRowW d kwd fun f vs => PySem.call f vs) : r.Holds :=
  holds_open (r := r) (q := q) (loose := loose) (XP := XL q []) (YP := H.says) (d := d) (kwd := kwd) left H.of H.keeps (fun s z => xl_of s (Bool.and_eq_true_iff.mp z).1) XL.keeps hdef hp hk (fun s z => recFacts_of (Bool.and_eq_true_iff.mp z).2) hwr k1 ok hb hw call
end
end TreeL
end
section
namespace TreeL
open PySem PySem.Spec PyProof.Rows L2 LamX
@[simp] def eScr (i : Nat) : EvE := fun env => match (env[i]? : Option (Option Arg)) with
  | some (some (.ow (.scrT ns))) => .ok (.tr (.scr ns)) env
  | _ => .bad
section
variable {X : Cx} {c : TC} {r : Ref} {W : WX} {e : Expr} {i : Nat}
theorem pt_scr (he : PE X e (tVar i)) : PE X e (TEof c r W (eScr i)) := PE.imp he fun σ H Q h => by
  obtain ⟨ads, G, env, R, h⟩ := h
  unfold eScr at h
  split at h
  rotate_left
  · exact h.elim
  rename_i ns e0
  have sl := R.slot i
  rw [e0] at sl
  cases q : σ[i]? with
  | none => rw [q] at sl; exact sl.elim
  | some o =>
    rw [q] at sl
    cases o with
    | none => exact sl.elim
    | some v =>
      obtain ⟨p, rfl, _, rep, _⟩ := sl
      exact ⟨_, q, h ads G H _ R (Nxt.refl _ _ _) rep⟩
end
def fLaw (n : Nat) (body : EvS) : FSem
  | [.t (.scr ns)] => (match body (some (.ow (.scrT ns)) :: List.replicate (n - 1) none) with
    | .rt a _ => .ret a []
    | _ => .bad)
  | _ => .bad
def spL (c : TC) (F : FSem) : Sp := fun vs H Q E => vs.length = 1 ∧ ∃ (a : Addr) (ns : List Int) (G : Hp), vs = [.ref a] ∧ Sub G H ∧ Rep c G (.scr ns) (.ref a) ∧ G c.tab = none ∧ H c.tab = some (.tbl #[]) ∧
  (∃ as, F [.t (.scr ns)] = .ret (.t (.bl true)) as) ∧ ∀ H', Q (.bl true) H'
section
variable {P : Program} {w : World} {K : PySem.W.Frag} {mg : Str → Option Value} {base : Heap} {x qual : Str} {params : Arguments} {body : List Stmt} {scope : Scope} {dvs : List V} {kws : List (Str × V)} {f k : Addr} {fd : FuncData}
theorem fn_law {c : TC} {N : List Str} {p : Str} {kk : Nat} {xs : EvS} (F : FunD K x qual params body scope dvs kws f fd) (S : FnScope N [p] scope) (hcd : fd.code = .ref k)
    (hbody : ∀ (cdv : Value) (A : Around) (outer : List Env) (s : Shared) (H : Hp) (E : XK) (r : Ref), let X := cxOf (L2.CX P w) P w K mg base N qual scope f cdv A outer s H E; cdv = .ref k → RoomG kk X.A → r.pins.map Prod.fst = [] → Takes X (fun cls d _ H' => E cls d H') → PassesOwn (model X.prog X.w) X.A X.env X.xe →
      PSs X body (TSof c r (fun cls d _ H' => E cls d H') xs)) : FnG P w K mg base (kk + 1) f fd [p] (spL c (fLaw N.length xs)) := by
  obtain ⟨oc, od, dV, kV, doc, pm, an, cdv, ct, osl, rfl, lk, hcr, _, _⟩ := F.ex
  have ecd : cdv = .ref k := hcd
  refine ⟨fun vs H Q E h => h.1, fun A l st H ar us vs Q E hr e0 hb rv hsp => ?_⟩
  have kin : K.In st.heap := e0.mod.kin.keeps fun b o e => (e0.bs b o e).1
  have nol : st.heap.NoLimit := e0.mod.nolimit.keeps fun b o e => (e0.bs b o e).1
  have kinds : ∀ y ∈ [p].zip us, scope.names.lookup y.1 = some .local ∨ (scope.names.lookup y.1 = some .cell ∧ ((cellsFrom (st.heap.objs.size + 1) scope.names []).lookup y.1).isSome = true) := fun ⟨n, v⟩ hy => by
    rcases S.par n (List.of_mem_zip hy).1 with q | q
    · exact .inl q
    · exact .inr ⟨q, PySem.W.cellsFrom_some _ _ _ (.inl q)⟩
  obtain ⟨_, a, ns, G, rfl, sb, rep, gT, hT, ⟨as, hF⟩, hQ⟩ := hsp
  refine codeAny_call_function hr.rm.depth (kin _ _ lk) rfl S.co S.gen rfl (PySem.W.codeRec_of kin hcr) (hb _ _ _ _ ?_)
  refine wpAny_newFunctionEnv_cells S.kind kinds fun env he s1 xc => ?_
  subst he
  refine ⟨nol.keeps xc.toInCall.keep, codeAny_func ?_⟩
  have tk : Takes (cxOf (L2.CX P w) P w K mg base N qual scope f cdv A l st H E) (fun cls d _ H' => E cls d H') := takes_of rfl rfl rfl rfl
  have po : PassesOwn (model P w) (cxOf (L2.CX P w) P w K mg base N qual scope f cdv A l st H E).A (cxOf (L2.CX P w) P w K mg base N qual scope f cdv A l st H E).env (cxOf (L2.CX P w) P w K mg base N qual scope f cdv A l st H E).xe := passes_of rfl
  have J : Inv (cxOf (L2.CX P w) P w K mg base N qual scope f cdv A l st H E) [] (L2.start N [.ref a]) H s1 := inv_start S hr.rm.hd e0 rfl rv xc
  have B := hbody cdv A l st H E ⟨fun b => if b = c.tab then none else H b, G, [], []⟩ ecd (hr.deeper _) rfl tk po
  have n0 : 1 ≤ N.length := by have := congrArg List.length S.pre; rw [List.length_take] at this; simp only [List.length_singleton] at this; omega
  have off : ∀ b u, (fun b => if b = c.tab then none else H b) b = some u → H b = some u := fun b u e => by
    have e : (if b = c.tab then none else H b) = some u := e
    by_cases z : b = c.tab
    · rw [if_pos z] at e; cases e
    · rw [if_neg z] at e; exact e
  have rs : RS c ⟨fun b => if b = c.tab then none else H b, G, [], []⟩ (fun i => if i = 0 then [c.tab] else []) G H (L2.start N [.ref a]) (some (.ow (.scrT ns)) :: List.replicate (N.length - 1) none) :=
    { step := ⟨Sub.refl _, sb, fun _ _ e => .inl e, fun b u _ e => off b u e, fun b e => by
        by_cases z : b = c.tab
        · exact if_pos z
        · exact (if_neg z).trans e⟩
      len := by
        unfold L2.start
        simp only [List.length_cons, List.length_replicate, List.length_append, List.length_map, List.length_nil]
        omega
      slot := fun i => by
        rw [starts_at]
        cases i with
        | zero => exact ⟨a, rfl, rfl, rep, #[], hT, True.intro, fun q w hw => by
            have z : codeAmong q [] = some w := hw
            simp [codeAmong] at z⟩
        | succ i =>
          have : (some (Arg.ow (OS.scrT ns)) :: List.replicate (N.length - 1) (none : Option Arg))[i + 1]?.join = none := by
            rw [List.getElem?_cons_succ, List.getElem?_replicate]
            split <;> rfl
          rw [this]
          exact if_neg (Nat.succ_ne_zero i)
      own := fun i b hb => by
        by_cases z : i = 0
        · rw [if_pos z] at hb
          rw [List.mem_singleton.mp hb]
          exact ⟨gT, .inr (if_pos rfl)⟩
        · rw [if_neg z] at hb; cases hb
      disj := fun i j b h1 h2 => by
        by_cases z : i = 0
        · by_cases y : j = 0
          · rw [z, y]
          · rw [if_neg y] at h2; cases h2
        · rw [if_neg z] at h1; cases h1
      pin := fun q hq => nomatch hq }
  have go : TSof c ⟨fun b => if b = c.tab then none else H b, G, [], []⟩ (fun cls d _ H' => E cls d H') xs { nx := fun _ H' => Q .non H', rt := Q } (L2.start N [.ref a]) H := by
    refine ⟨_, G, _, rs, ?_⟩
    unfold fLaw at hF
    dsimp only at hF
    cases q : xs (some (Arg.ow (OS.scrT ns)) :: List.replicate (N.length - 1) none) with
    | rt b e =>
      rw [q] at hF
      cases hF
      exact fun ads' G' H' σ' v R s' rr => by
        have e : v = .bl true := rr
        rw [e]
        exact hQ H'
    | nx e => rw [q] at hF; cases hF
    | bk e => rw [q] at hF; cases hF
    | ct e => rw [q] at hF; cases hF
    | exc y e => rw [q] at hF; cases hF
    | bad => rw [q] at hF; cases hF
  refine wpAny_mono (B.run [] s1 (L2.start N [.ref a]) H _ J go) (fun fl s' hs => ?_) fun e s' hs => hs
  match fl, hs with
  | .ret u, ⟨v, σ', H', J', rv', q⟩ => exact ⟨v, H', J'.os, J'.bare, J'.base, J'.hok, rv', q⟩
  | .next, ⟨σ', H', J', q⟩ => exact ⟨.non, H', J'.os, J'.bare, J'.base, J'.hok, rfl, q⟩
  | .brk, ⟨_, _, _, q⟩ => exact q.elim
  | .cont, ⟨_, _, _, q⟩ => exact q.elim
end

abbrev noTab : Obj := { cls := .none, data := .fields #[] }
section
variable {P : Program} {w : World} {K : PySem.W.Frag} {mg mb : Str → Option Value} {kk : Nat} {g a k : Addr} {fd : FuncData} {x : Str} {c : TC} {F : FSem} {t : Shared} {vs : List Value} {ns : List Int}
theorem lawAtT (H : Hp) (hO : ∀ b, H b = none ∨ b = c.tab ∨ ∃ o xs, H b = some (.frz o (.lst xs))) (hT : H c.tab = some (.tbl #[])) (tT : t.heap.get? c.tab = some noTab) (nT : K.lookup c.tab = none) (C : PySem.W.CodeHd t.heap k c.tab)
    (bm : ∃ (bm : Addr) (ob : Obj), mg "__builtins__" = some (.ref bm) ∧ bm ≠ builtinsNs ∧ t.heap.get? bm = some ob ∧ ob.cls = .type "module" ∧ ob.dict = some builtinsNs ∧ ob.data = .plain)
    (hS : SqL K H a (ns.map V.int)) (hok : HOk P w H t.heap) (one : ∀ b, H b ≠ none → b = a ∨ b = c.tab) (notK : H a ≠ none → K.lookup a = none) (kin : K.In t.heap) (hns : t.heap.Ns mainGlobals mg) (hb : t.heap.Ns builtinsNs mb) (hbb : ∀ y : Str, y ≠ "__name__" → mb y = bootBuiltins y) (hlim : t.heap.NoLimit) (hgn : t.gens = #[])
    (ha : t.heap.get? a = some { cls := .type "list", data := .seq vs.toArray }) (hr : RoomG kk callerA) (hF : ∀ base : Heap, K.In base → base.Ns mainGlobals mg → TabB base mg k c.tab → FnG P w K mg base kk g fd [x] (spL c F)) (hbind : ∀ (st : Shared) (u : Value), BindsTo st fd ⟨[u], []⟩ [(x, u)]) (hc : c.K = K) (hf : ∃ as, F [.t (.scr ns)] = .ret (.t (.bl true)) as) :
    codeAny (model P w) callerA (.call (.ref g) ⟨[.ref a], []⟩) (fun z t' => z = .ok (.ret (.bool true)) ∧ OldK t.heap t'.heap ∧ t'.os = t.os ∧ AllBare t'.gens) t := by
  have sink : ∀ {b : Addr} {o : Obj}, t.heap.get? b = some o → H b = none → (hidT t.heap H).get? b = some o := fun e n => hidT_get e n
  have neT : a ≠ c.tab := fun z => by
    rw [z, tT] at ha
    have : Data.fields #[] = Data.seq vs.toArray _ := congrArg Obj.data (Option.some.inj ha)
    cases this
  have free : ∀ {b : Addr} {o : Obj}, t.heap.get? b = some o → (∀ its n, o.data ≠ .seq its n) → o.data ≠ .fields #[] → H b = none := fun {b o} e d d2 => by
    cases q : H b with
    | none => rfl
    | some u =>
      rcases one b (by rw [q]; simp) with e' | e'
      · subst e'
        rw [ha] at e
        cases e
        exact absurd rfl (d _ _)
      · rw [e', tT] at e
        cases e
        exact absurd rfl d2
  have nsOf : ∀ {b : Addr} {m : Str → Option Value}, t.heap.Ns b m → (hidT t.heap H).Ns b m := fun {b m} ⟨o, es, ep, e, d, z⟩ => ⟨o, es, ep, sink e (free e (fun its n y => by rw [d] at y; cases y) fun y => by rw [d] at y; cases y), d, z⟩
  have kinB : K.In (hidT t.heap H) := fun b o e => sink (kin b o e) (by
    cases q : H b with
    | none => rfl
    | some u =>
      rcases one b (by rw [q]; simp) with e' | e'
      · subst e'
        rw [notK (by rw [q]; simp)] at e
        cases e
      · rw [e', nT] at e
        cases e)
  obtain ⟨mc, l1, l2⟩ := hlim
  have e0 : Env0 P w K mg (hidT t.heap H) callerA [] t H :=
    { frames := rfl, mod := ⟨kinB, nsOf hns, ⟨mb, nsOf hb, hbb⟩, ⟨mc, nsOf l1, l2⟩⟩, bs := fun b o e => of_hidT e, bsz := Nat.le_of_eq (hidT_size _ _), funs := trivial, frf := (fun b z => nomatch z), hok := hok, bare := .of_eq hgn }
  have TB : TabB (hidT t.heap H) mg k c.tab := by
    refine ⟨?_, ?_, fun z => ?_⟩
    · obtain ⟨o, us, file, tf, flags, tg, inF, text, tt, e1, q1, q2, q3, q⟩ := C
      refine ⟨o, us, file, tf, flags, tg, inF, text, tt, sink e1 (free e1 (fun its n z => by rw [q2] at z; cases z) fun z => ?_), q1, q2, q3, q⟩
      rw [q2] at z
      cases z
      simp at q3
    · obtain ⟨m, ob, b1, b2, b3, b4, b5, b6⟩ := bm
      refine ⟨m, ob, b1, b2, fun z => ?_, fun z => ?_, sink b3 (free b3 (fun its n z => by rw [b6] at z; cases z) fun z => by rw [b6] at z; cases z), b4, b5, b6⟩
      · obtain ⟨o, es, ep, e, d, _⟩ := hns
        rw [z, e] at b3
        cases b3
        rw [d] at b6
        cases b6
      · rw [z, tT] at b3
        cases b3
        cases b6
    · obtain ⟨o, es, ep, e, d, _⟩ := hns
      rw [z, tT] at e
      cases e
      cases d
  -- what is known for good: the script alone
  have sp : spL c F [.ref a] H (fun v _ => v = .bl true) fun _ _ _ => False := by
    let G0 : Hp := fun b => if b = a then H b else none
    have g1 : ∀ b, b = a → G0 b = H b := fun b z => if_pos z
    have g2 : ∀ b, b ≠ a → G0 b = none := fun b z => if_neg z
    refine ⟨rfl, a, ns, G0, rfl, fun b o e => ?_, ?_, g2 _ (Ne.symm neT), hT, hf, fun _ => rfl⟩
    · by_cases z : b = a
      · rw [g1 b z] at e; exact e
      · rw [g2 b z] at e; cases e
    · simp only [Rep]
      refine ⟨a, rfl, ?_⟩
      rw [hc]
      rcases hS with (z | ⟨o, z⟩) | z
      · exact .inl (.inl (by rw [g1 a rfl]; exact z))
      · exact .inl (.inr ⟨o, by rw [g1 a rfl]; exact z⟩)
      · exact .inr z
  refine codeAny_mono ((hF _ kinB (nsOf hns) TB).run callerA [] t H ⟨[.ref a], []⟩ [.ref a] [.ref a] _ _ hr e0 (hbind t (.ref a)) (.cons rfl .nil) sp) fun z t' h => ?_
  match z, h with
  | .error e, h =>
    obtain ⟨_, _, _, _, _, _, _, _, _, _, _, _, bad⟩ := h
    exact bad.elim
  | .ok .next, h => exact h.elim
  | .ok .brk, h => exact h.elim
  | .ok .cont, h => exact h.elim
  | .ok (.ret u), h =>
    obtain ⟨v, H', os, bare, un, hok', rv, q⟩ := h
    have q' : v = .bl true := q
    subst q'
    obtain rfl : u = Value.bool true := rv
    obtain ⟨more, gm⟩ := un.tbls c.tab #[] hT
    have gm := hok' c.tab _ gm
    have rest : ∀ b o, b ≠ c.tab → t.heap.get? b = some o → t'.heap.get? b = some o := fun b o nb e => by
      cases q : H b with
      | none => exact un.keep b o e q (fun z => nomatch z) (fun z => nomatch z)
      | some u =>
        rcases hO b with z | z | ⟨ob, xs, z⟩
        · rw [q] at z; cases z
        · exact absurd z nb
        · obtain ⟨e1, _⟩ := hok b _ z
          obtain ⟨e2, _⟩ := hok' b _ (un.frzs b ob _ z)
          rw [e] at e1
          cases e1
          exact e2
    refine ⟨rfl, ⟨fun b o e => ?_, fun b o e => ?_⟩, os, bare⟩
    · by_cases nb : b = c.tab
      · rw [nb] at e ⊢
        rw [tT] at e
        cases e
        exact .inr (.inl ⟨(C.tab tT).isCodeTable, rfl, #[], more, rfl, by rw [Array.empty_append]; rw [Array.empty_append] at gm; exact gm⟩)
      · exact .inl (rest b o nb e)
    · by_cases nb : b = c.tab
      · rw [nb]
        exact ⟨_, gm⟩
      · exact ⟨o, rest b o nb e⟩
theorem lawCallT (tT : t.heap.get? c.tab = some noTab) (nT : K.lookup c.tab = none) (C : PySem.W.CodeHd t.heap k c.tab)
    (bm : ∃ (bm : Addr) (ob : Obj), mg "__builtins__" = some (.ref bm) ∧ bm ≠ builtinsNs ∧ t.heap.get? bm = some ob ∧ ob.cls = .type "module" ∧ ob.dict = some builtinsNs ∧ ob.data = .plain)
    (kin : K.In t.heap) (hns : t.heap.Ns mainGlobals mg) (hb : t.heap.Ns builtinsNs mb) (hbb : ∀ y : Str, y ≠ "__name__" → mb y = bootBuiltins y) (hlim : t.heap.NoLimit) (hgn : t.gens = #[]) (ha : t.heap.get? a = some { cls := .type "list", data := .seq vs.toArray }) (hi : IntsAre vs ns) (hl : ns.length ≤ sizeLine) (hr : RoomG kk callerA)
    (hF : ∀ base : Heap, K.In base → base.Ns mainGlobals mg → TabB base mg k c.tab → FnG P w K mg base kk g fd [x] (spL c F)) (hbind : ∀ (st : Shared) (u : Value), BindsTo st fd ⟨[u], []⟩ [(x, u)]) (hc : c.K = K) (hf : ∃ as, F [.t (.scr ns)] = .ret (.t (.bl true)) as) :
    codeAny (model P w) callerA (.call (.ref g) ⟨[.ref a], []⟩) (fun z t' => z = .ok (.ret (.bool true)) ∧ OldK t.heap t'.heap ∧ t'.os = t.os ∧ AllBare t'.gens) t := by
  have rv := vals_ints hi
  have lv := hi.length
  have neT : c.tab ≠ a := fun z => by
    rw [← z, tT] at ha
    have : Data.fields #[] = Data.seq vs.toArray _ := congrArg Obj.data (Option.some.inj ha)
    cases this
  have okT : ∀ H : Hp, ObjOk P w H t.heap c.tab (.tbl #[]) := fun H => tT
  cases hk : K.lookup a with
  | some o =>
    have e := kin a o hk
    rw [ha] at e
    cases e
    let H0 : Hp := fun b => if b = c.tab then some (.tbl #[]) else none
    have at_t : H0 c.tab = some (.tbl #[]) := if_pos rfl
    have off : ∀ b, b ≠ c.tab → H0 b = none := fun b z => if_neg z
    refine lawAtT H0 (fun b => ?_) at_t tT nT C bm (.inr ⟨_, vs.toArray, _, hk, rfl, rfl, rfl, by rw [List.size_toArray, lv]; exact hl, by simpa using rv⟩) (fun b u z => ?_) (fun b z => ?_) (fun z => absurd (off a (Ne.symm neT)) z) kin hns hb hbb hlim hgn ha hr hF hbind hc hf
    · by_cases z : b = c.tab
      · exact .inr (.inl z)
      · exact .inl (off b z)
    · by_cases y : b = c.tab
      · subst y
        rw [at_t] at z
        cases z
        exact okT H0
      · rw [off b y] at z; cases z
    · by_cases y : b = c.tab
      · exact .inr y
      · exact absurd (off b y) z
  | none =>
    let H0 : Hp := fun b => if b = a then some (.frz { cls := .type "list", data := .seq vs.toArray } (.lst (ns.map V.int))) else if b = c.tab then some (.tbl #[]) else none
    have at_a : H0 a = some (.frz { cls := .type "list", data := .seq vs.toArray } (.lst (ns.map V.int))) := if_pos rfl
    have at_t : H0 c.tab = some (.tbl #[]) := (if_neg neT).trans (if_pos rfl)
    have off : ∀ b, b ≠ a → b ≠ c.tab → H0 b = none := fun b z y => (if_neg z).trans (if_neg y)
    refine lawAtT H0 (fun b => ?_) at_t tT nT C bm (.inl (.inr ⟨_, at_a⟩)) (fun b u z => ?_) (fun b z => ?_) (fun _ => hk) kin hns hb hbb hlim hgn ha hr hF hbind hc hf
    · by_cases z : b = a
      · rw [z]; exact .inr (.inr ⟨_, _, at_a⟩)
      · by_cases y : b = c.tab
        · exact .inr (.inl y)
        · exact .inl (off b z y)
    · by_cases y : b = a
      · subst y
        rw [at_a] at z
        cases z
        exact ⟨ha, by rw [List.length_map]; exact hl, vs, _, rv, ha⟩
      · by_cases y2 : b = c.tab
        · subst y2
          rw [at_t] at z
          cases z
          exact okT H0
        · rw [off b y y2] at z; cases z
    · by_cases y : b = a
      · exact .inl y
      · by_cases y2 : b = c.tab
        · exact .inr y2
        · exact absurd (off b y y2) z
end
theorem walkT {l : PySem.W.OpenLaw} {n kk : Nat} {q : Program} {loose : List Str} {XP : (Str → Option Value) → Heap → Prop} {YP : World → Heap → Prop} {d : DefRec} {x : Str} (hn : l.most = some n) (hn2 : n ≤ sizeLine) (hdf : d.params.defaults = []) (hr : RoomG kk callerA)
    (hY : ∀ (w : World) (mg : Str → Option Value) (fa : Addr) (h : Heap), YP w h → h.Ns mainGlobals mg → mg d.name = some (.ref fa) → ∃ (K : PySem.W.Frag) (fd : FuncData) (c : TC) (F : FSem) (k : Addr), K.In h ∧ (∀ (st : Shared) (u : Value), BindsTo st fd ⟨[u], []⟩ [(x, u)]) ∧ c.K = K ∧
      h.get? c.tab = some noTab ∧ K.lookup c.tab = none ∧ PySem.W.CodeHd h k c.tab ∧
      (∀ ns : List Int, ns.length ≤ n → ∃ as, F [.t (.scr ns)] = .ret (.t (.bl true)) as) ∧ ∀ base : Heap, K.In base → base.Ns mainGlobals mg → TabB base mg k c.tab → FnG l.prog w K mg base kk fa fd [x] (spL c F)) :
    PySem.W.WalkO q loose XP YP l.row.toRowW d [] (fun f vs => PySem.call f vs) := by
  refine Att.attach_call hn hdf fun w s0 t mg mb fa o pm cd doc a vs ns G Y ho hd hcd hmg hobj hints hlen hg => ?_
  obtain ⟨K, fd, c, F, k, kin, hb, hc, tT, nT, C, hf, hF⟩ := hY w mg fa _ Y G.T.g hmg
  exact lawCallT tT nT C G.T.bmain kin G.T.g G.T.b G.T.builtins G.T.nolimit hg hobj hints (Nat.le_trans hlen hn2) hr hF hb hc (hf ns hlen)
noncomputable section
open PySem.W in
def hookL (K : Params → PySem.W.Frag) (as : List Addr) (T : Addr) (fs : List (PySem.W.Frag → Bool)) (fn : List He5.DefA) (e : ∀ P, as = (K P).map (·.1)) (hs : ∀ P, SaysT fs fn (K P)) (ht : ∀ P, tabOf (K P) = T) (hn : ∀ P, (K P).lookup T = none) : PySem.W.Hook where
  α := List (Option Obj)
  obs := fun s => (T :: as).map s.heap.get?
  val := fun w => some noTab :: (K w.params).map fun p => some p.2
  says := fun _ h => ∃ K : PySem.W.Frag, K.In h ∧ SaysT fs fn K ∧ K.lookup (tabOf K) = none ∧ h.get? (tabOf K) = some noTab
  of := fun w _ x => by
    simp only [List.map_cons, List.cons.injEq] at x
    exact ⟨K w.params, Frag.in_of (e _) x.2, hs _, by rw [ht]; exact hn _, by rw [ht]; exact x.1⟩
  keeps := fun _ _ _ ⟨K, hK, c, n, g⟩ k => ⟨K, PySem.W.Frag.In.keeps hK k, c, n, k _ _ g⟩
end
def codeOf (K : PySem.W.Frag) : Addr := match K.lookup (He.ga K "law") with
  | some ⟨_, _, .func fd, _⟩ => (match fd.code with
    | .ref k => k
    | _ => 0)
  | _ => 0
def codeB (T : Addr) (K : PySem.W.Frag) : Bool := decide (tabOf K = T) && (match K.lookup (He.ga K "law") with
  | some ⟨_, _, .func fd, _⟩ => decide (fd.code = .ref (codeOf K))
  | _ => false) && (match K.lookup (codeOf K) with
  | some ⟨.type "code", _, .fields vs, _⟩ => decide (vs[11]? = some (.ref (tabOf K))) && decide (vs.getD 11 .none = .ref (tabOf K)) && (match vs.getD 18 .none, vs.getD 7 .none, vs.getD 9 .none, vs.getD 10 .none with
    | .str _ _, .int _ _, .bool _, .int _ _ => true
    | _, _, _, _ => false)
  | _ => false) && decide (codeOf K ≠ tabOf K)
theorem codeB_hd {T : Addr} {K : PySem.W.Frag} {h : Heap} (X : K.In h) (e : codeB T K = true) : tabOf K = T ∧ PySem.W.CodeHd h (codeOf K) (tabOf K) := by
  unfold codeB at e
  simp only [Bool.and_eq_true, decide_eq_true_iff] at e
  obtain ⟨⟨⟨e1, _⟩, e3⟩, e4⟩ := e
  refine ⟨e1, ?_⟩
  split at e3
  · rename_i od vs sl hk
    simp only [Bool.and_eq_true, decide_eq_true_iff] at e3
    obtain ⟨⟨a1, a2⟩, a3⟩ := e3
    split at a3
    · rename_i f tf fl tg inF tx tt q1 q2 q3 q4
      exact ⟨_, vs, f, tf, fl, tg, inF, tx, tt, X _ _ hk, rfl, rfl, a1, a2, q1, q2, q3, q4, e4⟩
    · cases a3
  · cases e3
theorem codeB_fd {T : Addr} {K : PySem.W.Frag} {x qual : Str} {params : Arguments} {body : List Stmt} {scope : Scope} {dvs : List V} {kws : List (Str × V)} {fd : FuncData} (D : FunD K x qual params body scope dvs kws (He.ga K "law") fd) (e : codeB T K = true) : fd.code = .ref (codeOf K) := by
  unfold codeB at e
  simp only [Bool.and_eq_true] at e
  obtain ⟨⟨⟨_, e2⟩, _⟩, _⟩ := e
  obtain ⟨oc, od, dV, kV, doc, pm, an, cdv, ct, osl, rfl, lk, _, _, _⟩ := D.ex
  rw [lk] at e2
  exact of_decide_eq_true e2
end TreeL
end
section
namespace TreeL
open PySem PySem.Spec PyProof.Rows L2
structure Down (X : Cx) (pins : List (Addr × Obj)) (σ : L2.St) (H : Hp) (B : Heap) (s0 : Shared) (a : Addr) (kl : Value) (d : Option Addr) (s : Shared) : Prop where
  inv : Inv X pins σ H s0
  nb : ∀ b o, s0.heap.get? b = some o → b ∉ frs X.stack → B.get? b = some o
  up : s0.heap.UpToSlots s.heap
  fl : HandSPX.FlyingZ B (X.env :: X.outer) a (Zc kl d) s.heap
  no : H a = none
  os : s.os = s0.os
  ag : AllBare s.gens
section
variable {X : Cx} {pins : List (Addr × Obj)} {σ : L2.St} {H : Hp} {B : Heap} {s0 s : Shared} {a : Addr} {kl : Value} {d : Option Addr} {D : Ends} {W : WX}
theorem Down.apart (w : Down X pins σ H B s0 a kl d s) (hf : X.env.frame = some X.env.locals) {oe : Obj} {vs : Array Value} (ga : s.heap.get? a = some oe) (da : oe.data = .fields vs) : a ≠ X.env.locals ∧ a ∉ X.fs := by
  have out : a ∉ frs (X.env :: X.outer) := fun m => by
    obtain ⟨_, o, e, n⟩ := w.fl.2.2.1.mem m
    rw [ga] at e
    cases e
    exact n _ da
  refine ⟨fun z => out (List.mem_filterMap.mpr ⟨X.env, List.mem_cons_self, by rw [hf, z]⟩), fun m => ?_⟩
  obtain ⟨e, he, q⟩ := List.mem_filterMap.mp m
  exact out (List.mem_filterMap.mpr ⟨e, List.mem_cons_of_mem _ he, q⟩)
theorem Down.at_ (w : Down X pins σ H B s0 a kl d s) : Inv X pins σ H s := by
  have z := w.inv.landed w.nb w.fl.1 w.up w.os w.ag
  exact z
end
section
variable {X : Cx} {x1 x2 n : Str} {c1 c2 : Value} {i : Nat} {body r1 r2 : List Stmt} {b1 b2 : Stmt} {np1 np2 pos pos1 pos2 : Pos} {tb : WX → TS} {t1 t2 : Addr → Value → Option Addr → TS} {Wout : WX}
end

section
variable {X : Cx} {c : TC} {r : Ref} {W : WX} {xs : EvS} {ys zs : EX → EvS} {i k1 k2 : Nat} {js ks y1 y2 pn ps : List Nat} {body r1 r2 : List Stmt} {b1 b2 : Stmt} {n x1 x2 : Str} {np1 np2 pos pos1 pos2 : Pos}
end
def stripP : PV → Option PV
  | .str a => if a.length ≤ LIM ∧ ((TL.tl (Txt.strip a)).all fun n => decide (n < 128)) = true ∧ (Txt.strip a).length ≤ LIM then some (.str (Txt.strip a)) else none
  | _ => none
@[simp] def eStrip (ea : EvE) : EvE := fun env => (ea env).bind fun x e => match look e x with
  | some t => (ofO (stripP t) e).bind fun t e => .ok (.tr t) e
  | none => .bad
section
variable {X : Cx} {c : TC} {r : Ref} {W : WX} {o : Expr} {ea : EvE} {apos pos : Pos}
end
end TreeL
end
section
namespace TreeL
open PySem PySem.Spec PyProof.Rows L2
structure Ali (r : Ref) (i j : Nat) (q : Addr) : Prop where
  x : (j, V.ref q, []) ∈ r.pins
  b : ∃ p, (i, V.ref p, [p, q]) ∈ r.pins
abbrev Ref.ali (r : Ref) (j : Nat) (q : Addr) : Ref := { r with pins := r.pins ++ [(j, V.ref q, [])] }
theorem ali_pins {r : Ref} {j : Nat} {q : Addr} {pn : List Nat} (hp : r.pins.map Prod.fst = pn) : (r.ali j q).pins.map Prod.fst = pn ++ [j] := by
  show (r.pins ++ [(j, V.ref q, [])]).map Prod.fst = _
  rw [List.map_append, hp]
  rfl
theorem inpin {r : Ref} {pn : List Nat} {i : Nat} (hp : r.pins.map Prod.fst = pn) (h : pn.contains i = true := by rfl) : (r.pins.map Prod.fst).contains i = true := by rw [hp]; exact h
section
variable {c : TC} {r : Ref} {ads : Nat → List Addr} {G H : Hp} {σ : L2.St} {env : En} {i j : Nat} {q : Addr} {great : List Int} {fs : List (Str × Int)}
theorem Ali.var (A : Ali r i j q) (R : RS c r ads G H σ env) : σ[j]? = some (some (.ref q)) := (R.pin _ A.x).1
theorem Ali.box (A : Ali r i j q) (R : RS c r ads G H σ env) (h : env[i]? = some (some (.ow (.boxD great fs)))) : ∃ a, σ[i]? = some (some (.ref a)) ∧ ads i = [a, q] ∧ a ≠ q ∧ H q = some (.lst (great.map V.int)) ∧ H a = some (.dK (bxK q fs)) := by
  obtain ⟨a, b, e1, e2, e3, e4, e5⟩ := box_slot R h
  obtain ⟨p, hb⟩ := A.b
  have z := (R.pin _ hb).2
  rw [e2] at z
  cases z
  exact ⟨a, e1, e2, e3, e4, e5⟩
theorem RS.ali (R : RS c r ads G H σ env) (hp : (r.pins.map Prod.fst).contains j = false) (lt : j < env.length) : RS c (r.ali j q) (fun k => if k = j then [] else ads k) G H (σ.set j (some (.ref q))) (env.set j none) where
  step := R.step
  len := by simp [R.len]
  slot := fun k => by
    by_cases z : k = j
    · subst z
      rw [if_pos rfl, join_set_self lt]
      exact rfl
    · rw [join_set_ne (Ne.symm z), join_set_ne (Ne.symm z), if_neg z]
      exact R.slot k
  own := fun k a ha => by
    by_cases z : k = j
    · rw [if_pos z] at ha; cases ha
    · rw [if_neg z] at ha
      obtain ⟨h1, h2⟩ := R.own k a ha
      refine ⟨h1, h2.imp (fun h => ⟨?_, h.2⟩) id⟩
      rw [ali_pins rfl]
      exact List.mem_append_left _ h.1
  disj := fun k l a ha hb => by
    by_cases z : k = j
    · rw [if_pos z] at ha; cases ha
    · rw [if_neg z] at ha
      by_cases z' : l = j
      · rw [if_pos z'] at hb; cases hb
      · rw [if_neg z'] at hb; exact R.disj k l a ha hb
  pin := fun e he => by
    rcases List.mem_append.mp he with h | h
    · have ne : e.1 ≠ j := fun z => by
        have : (r.pins.map Prod.fst).contains j = true := List.contains_iff_mem.mpr (by rw [← z]; exact List.mem_map_of_mem h)
        rw [hp] at this
        cases this
      obtain ⟨h1, h2⟩ := R.pin e h
      exact ⟨by rw [List.getElem?_set_ne (Ne.symm ne)]; exact h1, by rw [if_neg ne]; exact h2⟩
    · rw [List.mem_singleton.mp h]
      exact ⟨by rw [List.getElem?_set_self (by rw [← R.len]; exact lt)], by rw [if_pos rfl]⟩
theorem RS.unali (R : RS c (r.ali j q) ads G H σ env) : RS c r ads G H σ env where
  step := R.step
  len := R.len
  slot := R.slot
  own := fun k a ha => by
    obtain ⟨h1, h2⟩ := R.own k a ha
    refine ⟨h1, h2.imp (fun h => ⟨?_, h.2⟩) id⟩
    have z := h.1
    rw [ali_pins rfl] at z
    rcases List.mem_append.mp z with y | y
    · exact y
    · have e := (R.pin (j, V.ref q, []) (List.mem_append_right _ (List.mem_singleton.mpr rfl))).2
      rw [List.mem_singleton.mp y] at ha
      rw [show ads j = [] from e] at ha
      cases ha
  disj := R.disj
  pin := fun e he => R.pin e (List.mem_append_left _ he)
end
def sAli (i j : Nat) (xs : EvS) : EvS := fun env => match env[i]?, env[j]? with
  | some (some (.ow (.boxD _ _))), some none => xs (env.set j none)
  | _, _ => .bad
section
variable {X : Cx} {c : TC} {r : Ref} {W : WX} {o : Expr} {i j kk : Nat} {q : Addr} {x : Str} {pos pos' pos2 p : Pos} {rest : List Stmt} {xs : EvS}
theorem tss_ali (hu : X.A.units + 1 < cLine) (hN : X.N.Nodup) (hi : X.N[j]? = some x) (hx : Loc X.env.scope x) (hp : (r.pins.map Prod.fst).contains j = false) (hb : (r.pins.map Prod.fst).contains i = true) (ho : PE X o (tVar i))
    (hr : ∀ q : Addr, Ali (r.ali j q) i j q → PSs X rest (TSof c (r.ali j q) W xs))
    (hs : swapsWith (.Subscript o (.Constant (.str GREAT) kk p) pos2) (some (.Name x pos')) pos.line X.env = pure false := by rfl) (hf : X.fn x = true ∨ X.env.scope.names.lookup x = some .local := by first | exact .inl rfl | exact .inr rfl | assumption) :
    PSs X (.Assign [.Name x pos'] (.Subscript o (.Constant (.str GREAT) kk p) pos2) pos :: rest) (TSof c r W (sAli i j xs)) := by
  have st := ps_set (pos' := pos') hN hi hx (pe_dget (pos := pos2) hu ho (pe_str (x := GREAT) (j := kk) (pos := p)) fun _ _ => rfl) hs hf
  refine PSs.imp (pss_cons st (t := _) (u := fun D σ H => ∃ q, Ali (r.ali j q) i j q ∧ TSof c (r.ali j q) W xs D σ H) (PSs.ex fun q hq => hr q hq)) fun D σ H ⟨ads, G, env, R, h⟩ => ?_
  unfold sAli at h
  cases e1 : env[i]? with
  | none => simp only [e1] at h; exact h.elim
  | some a1 =>
    cases a1 with
    | none => simp only [e1] at h; exact h.elim
    | some a2 =>
      cases a2 with
      | t _ => simp only [e1] at h; exact h.elim
      | ow a3 =>
        cases a3 with
        | boxD great fs =>
          cases e2 : env[j]? with
          | none => simp only [e1, e2] at h; exact h.elim
          | some y =>
            cases y with
            | some _ => simp only [e1, e2] at h; exact h.elim
            | none =>
              simp only [e1, e2] at h
              obtain ⟨a, b, z1, z2, z3, z4, z5⟩ := box_slot R e1
              have lt : j < env.length := (List.getElem?_eq_some_iff.mp e2).1
              refine ⟨.ref a, z1, a, .ref b, rfl, .inl ⟨_, .inr GREAT, .inl z5, rfl, bx_great.symm⟩, ?_⟩
              refine ⟨b, ⟨List.mem_append_right _ (List.mem_singleton.mpr rfl), a, List.mem_append_left _ ?_⟩, _, G, _, R.ali hp lt, ?_⟩
              · obtain ⟨e, he, ee⟩ := List.mem_map.mp (List.contains_iff_mem.mp hb)
                obtain ⟨y1, y2⟩ := R.pin e he
                obtain ⟨e1', e2', e3'⟩ := e
                simp only at ee y1 y2
                subst ee
                rw [z1] at y1
                rw [z2] at y2
                cases y1
                rw [← y2] at he
                exact he
              · exact SO.Sat_mono h (fun e h a b d σ R s => h a b d σ R.unali s) (fun t e h a b d σ v R s => h a b d σ v R.unali s) (fun e h a b d σ R s => h a b d σ R.unali s) (fun e h a b d σ R s => h a b d σ R.unali s) fun y e h a b d σ cls dd R s => h a b d σ cls dd R.unali s
        | _ => simp only [e1] at h; exact h.elim
@[simp] def eAlBin (f : PV → PV → Option PV) (i : Nat) (eb : EvE) : EvE := fun env => (eb env).bind fun b e => match e[i]?, look e b with
  | some (some (.ow (.boxD great _))), some y => (ofO (f (.lst (great.map .int)) y) e).bind fun t e => .ok (.tr t) e
  | _, _ => .bad
variable {a b : Expr} {eb : EvE}
theorem alBin_imp (A : Ali r i j q) {r2 : R2} {f : PV → PV → Option PV} (ho : ∀ {G H : Hp} {t1 t2 t : PV} {v1 v2 : V} {Q : VK}, f t1 t2 = some t → Sub G H → WRep c G H t1 v1 → WRep c G H t2 v2 → VOut c G H t Q → r2 v1 v2 H Q) {σ : L2.St} {H : Hp} {Q : VK} (h : TEof c r W (eAlBin f i eb) σ H Q) : tOp r2 (tVar j) (TEof c r W eb) σ H Q := by
  obtain ⟨ads, G, env, R, h⟩ := h
  refine ⟨.ref q, A.var R, ads, G, env, R, Sat_mono (Sat_bind.mp h) (fun y e2 h2 ads2 G2 H2 v2 R2 s2 p2 => ?_) fun _ _ z => z⟩
  cases q1 : e2[i]? with
  | none => simp only [q1] at h2; exact h2.elim
  | some a1 =>
    cases a1 with
    | none => simp only [q1] at h2; exact h2.elim
    | some a2 =>
      cases a2 with
      | t _ => simp only [q1] at h2; exact h2.elim
      | ow a3 =>
        cases a3 with
        | boxD great fs =>
          cases q2 : look e2 y with
          | none => simp only [q1, q2] at h2; exact h2.elim
          | some t2 =>
            simp only [q1, q2] at h2
            obtain ⟨t, ht, h2⟩ := Sat_ofO.mp (Sat_bind.mp h2)
            obtain ⟨a, z1, z2, z3, z4, z5⟩ := A.box R2 q1
            exact ho ht R2.sub ⟨q, _, rfl, z4, ints_map⟩ (look_rep R2 p2 q2) fun v H' G' st p => h2 ads2 G' H' v (R2.next st) (s2.trans (Nxt.of st)) p
        | _ => simp only [q1] at h2; exact h2.elim
theorem pt_alIx (A : Ali r i j q) (hK : X.K = c.K) (ha : PE X a (tVar j)) (hb : PE X b (TEof c r W eb)) (hs : PlainIx b) : PE X (.Subscript a b pos) (TEof c r W (eAlBin ixP i eb)) :=
  PE.imp (pe_ix ixAny ha hb hs) fun σ H Q h => alBin_imp A (fun e s w1 w2 q => ix_ok hK e s w1 w2 q) h
theorem tt_alCmp {op : CmpOp} {f : PV → PV → Option PV} (A : Ali r i j q) (ho : OpP X c (compareOp op) f) (ha : PE X a (tVar j)) (hb : PE X b (TEof c r W eb)) (hm : behindInMarks op b = false) : PT X (.Compare a [op] [b] pos) (TTof c r W (tBl (eAlBin f i eb))) :=
  PT.imp (pt_cmpR opAny ha hb hm) fun σ H Q ⟨ads, G, env, R, h⟩ => alBin_imp A (fun {G H t1 t2 t v1 v2 Q} e s w1 w2 q => ho G H t1 t2 t v1 v2 Q e s w1 w2 q) ⟨ads, G, env, R, Sat_mono (Sat_bind.mp h) (fun x e1 h1 ads1 G1 H1 v1 R1 s1 p1 => by
    obtain ⟨k, hk, h2⟩ := Sat_ofO.mp h1
    exact ⟨k, bOf_rep p1 hk, h2 ads1 G1 H1 R1 s1⟩) fun _ _ z => z⟩
theorem pt_alPop {apos cpos : Pos} (A : Ali r i j q) (ho : PE X o (tVar j)) (hbase : attributeBase o "pop" X.env (eval o X.env) = eval o X.env := by rfl) (hline : (apos.endLine == cpos.line) = true := by rfl) :
    PE X (.Call (.Attribute o "pop" apos) [] [] cpos) (TEof c r W (eBpop i)) :=
  PE.imp (pe_bm0 (T := "list") (id := "list.pop") PySem.F.plainAttrs_list PySem.F.slot_list_pop PySem.F.type_list_pop mt_pop ho hbase hline) fun σ H Q ⟨ads, G, env, R, h⟩ => by
    simp only [eBpop] at h
    cases e : env[i]? with
    | none => simp only [e] at h; exact h.elim
    | some u =>
      cases u with
      | none => simp only [e] at h; exact h.elim
      | some u =>
        cases u with
        | t _ => simp only [e] at h; exact h.elim
        | ow u =>
          cases u with
          | boxD great fs =>
            simp only [e] at h
            obtain ⟨n, hn, h2⟩ := Sat_ofO.mp (Sat_bind.mp h)
            obtain ⟨a, e1, e2, e3, e4, e5⟩ := A.box R e
            refine ⟨.ref q, A.var R, .inl ⟨rfl, _, .inl (.inl e4)⟩, q, _, .int n, rfl, rfl, e4, by rw [List.length_map, List.getElem?_map, hn]; rfl, ?_⟩
            have R2 := (RS.bwrite (great' := great.dropLast) (fs' := fs) R e1 e2 e3 e4 e5).1
            rw [← List.map_dropLast]
            exact h2 ads G _ _ R2 (Nxt.wr (i := i) (by rw [e2]; simp) e4) (rep_int (c := c) G)
          | _ => simp only [e] at h; exact h.elim
def eAlApp (i : Nat) (el : EvA) : EvE := fun env => match env[i]? with
  | some (some (.ow (.boxD _ _))) => (el env).bind fun xs e => (match e[i]?, trees xs with
    | some (some (.ow (.boxD great fs))), some [.int n] => if great.length < LIM then .ok (.tr .non) (e.set i (some (.ow (.boxD (great ++ [n]) fs)))) else .bad
    | _, _ => .bad)
  | _ => .bad
theorem pt_alApp {apos cpos : Pos} {as : List Expr} {el : EvA} (A : Ali r i j q) (ho : PE X o (tVar j)) (ha : PA X (a :: as) (TAof c r W el))
    (hbase : attributeBase o "append" X.env (eval o X.env) = eval o X.env := by rfl)
    (hfew : ((backTo cpos (starEach (a :: as) X.env)).all (fun x => !x.1) && (backToKw cpos (keywordEach [] X.env)).all (fun x => x.1.isSome) && decide ((a :: as).length + ([] : List Keyword).length + (if ([] : List Keyword).isEmpty then 0 else 1) < 30)) = true := by rfl)
    (hline : (apos.endLine == cpos.line) = true := by rfl) (hs : starEach (a :: as) X.env = (false, eval a X.env) :: starEach as X.env := by rfl) (hplain : (backTo cpos (starEach as X.env)).any (·.1) = false := by rfl) :
    PE X (.Call (.Attribute o "append" apos) (a :: as) [] cpos) (TEof c r W (eAlApp i el)) :=
  PE.imp (pe_bm (T := "list") (id := "list.append") PySem.F.plainAttrs_list PySem.F.slot_list_append PySem.F.type_list_append mt_append ho ha hbase hfew hline hs hplain) fun σ H Q ⟨ads, G, env, R, h⟩ => by
    unfold eAlApp at h
    cases e : env[i]? with
    | none => simp only [e] at h; exact h.elim
    | some u =>
      cases u with
      | none => simp only [e] at h; exact h.elim
      | some u =>
        cases u with
        | t _ => simp only [e] at h; exact h.elim
        | ow u =>
          cases u with
          | boxD great0 fs0 =>
            simp only [e] at h
            obtain ⟨a0, _, _, _, e40, _⟩ := A.box R e
            refine ⟨.ref q, A.var R, .inl ⟨rfl, _, .inl (.inl e40)⟩, ads, G, env, R, Sat_mono (Sat_bind.mp h) (fun xs e2 h2 ads2 G2 H2 vs R2 s2 p2 => ?_) fun _ _ z => z⟩
            cases q1 : e2[i]? with
            | none => simp only [q1] at h2; exact h2.elim
            | some u =>
              cases u with
              | none => simp only [q1] at h2; exact h2.elim
              | some u =>
                cases u with
                | t _ => simp only [q1] at h2; exact h2.elim
                | ow u =>
                  cases u with
                  | boxD great fs =>
                    cases q2 : trees xs with
                    | none => simp only [q1, q2] at h2; exact h2.elim
                    | some ts =>
                      simp only [q1, q2] at h2
                      split at h2
                      · rename_i g2 f2 n w1 w2
                        cases w1
                        cases w2
                        obtain ⟨hl, h2⟩ := (show _ ∧ _ from by
                          by_cases hl : great.length < LIM
                          · rw [if_pos hl] at h2; exact ⟨hl, h2⟩
                          · rw [if_neg hl] at h2; exact h2.elim)
                        obtain ⟨a2, e1, e2', e3, e4, e5⟩ := A.box R2 q1
                        have rr := trees_rep p2 q2
                        obtain ⟨v, vs', hv, rv, hn⟩ := rr
                        cases hn
                        subst hv
                        cases rv
                        refine ⟨q, _, .int n, rfl, rfl, e4, by rw [List.length_map]; exact Nat.lt_of_lt_of_le hl (lim_line (Nat.le_refl _)), ?_⟩
                        have R3 := (RS.bwrite (great' := great ++ [n]) (fs' := fs) R2 e1 e2' e3 e4 e5).1
                        rw [show great.map V.int ++ [V.int n] = (great ++ [n]).map V.int from by rw [List.map_append]; rfl]
                        exact h2 ads2 G2 _ _ R3 (s2.trans (Nxt.wr (i := i) (by rw [e2']; simp) e4)) (rep_non (c := c) G2)
                      · exact h2.elim
                  | _ => simp only [q1] at h2; exact h2.elim
          | _ => simp only [e] at h; exact h.elim
end
end TreeL
end
section
namespace TreeL
open PySem PySem.Spec PyProof.Rows L2
theorem Step.key {G H : Hp} {b : Addr} {k : List Key} (s : Sub G H) (h : H b = some (.tup (k.map kV))) : Step [] H G H (upd G b (.tup (k.map kV))) where
  sub := fun a u e => by
    by_cases z : a = b
    · rw [z] at e ⊢
      have y := s _ _ e
      rw [h] at y
      cases y
      rw [upd_same]
    · rw [upd_ne z]; exact e
  sub1 := fun a u e => by
    by_cases z : a = b
    · rw [z, upd_same] at e
      cases e
      rw [z]; exact h
    · rw [upd_ne z] at e; exact s _ _ e
  new := fun a u e => by
    by_cases z : a = b
    · rw [z, upd_same] at e
      cases e
      exact .inr (.inr ⟨k, rfl⟩)
    · rw [upd_ne z] at e; exact .inl e
  keep := fun _ _ _ e => e
  there := fun _ e => e
def keys2 : PV → Option (List Key)
  | .tup [a, b] => (keyOf a).bind fun x => (keyOf b).map fun y => [x, y]
  | _ => none
section
variable {c : TC} {G H : Hp}
theorem keys2_some {t : PV} {k : List Key} (h : keys2 t = some k) : ∃ a b x y, t = .tup [a, b] ∧ keyOf a = some x ∧ keyOf b = some y ∧ k = [x, y] := by
  unfold keys2 at h
  split at h
  · rename_i a b
    cases e1 : keyOf a with
    | none => rw [e1] at h; cases h
    | some x =>
      cases e2 : keyOf b with
      | none => rw [e1, e2] at h; cases h
      | some y =>
        rw [e1, e2] at h
        cases h
        exact ⟨a, b, x, y, rfl, e1, e2, rfl⟩
  · cases h
theorem keys2_w {t : PV} {k : List Key} {v : V} (h : keys2 t = some k) (p : WRep c G H t v) : ∃ b, v = .ref b ∧ G b = some (.tup (k.map kV)) ∧ t = .tup (k.map keyP) := by
  obtain ⟨a, b, x, y, rfl, e1, e2, rfl⟩ := keys2_some h
  obtain ⟨p, vs, rfl, sq, va, r1, rfl, ra, vb, r2, rfl, rb, rn⟩ := p
  cases rn
  obtain ⟨rfl, z1⟩ := keyOf_rep e1 ra
  obtain ⟨rfl, z2⟩ := keyOf_rep e2 rb
  exact ⟨p, rfl, sq.two, by rw [z1, z2]; rfl⟩
theorem beq_keys : ∀ q k : List Key, PV.beq (.tup (q.map keyP)) (.tup (k.map keyP)) = decide (q = k)
  | [], [] => by simp [PV.beq, PV.beqL]
  | [], _ :: _ => by simp [PV.beq, PV.beqL]
  | _ :: _, [] => by simp [PV.beq, PV.beqL]
  | x :: q, y :: k => by
    have ih := beq_keys q k
    rw [PV.beq] at ih
    rw [PV.beq, List.map_cons, List.map_cons, PV.beqL, ih, beq_key]
    by_cases e1 : x = y <;> by_cases e2 : q = k <;> simp [e1, e2]
theorem RepT.len : ∀ {kvs : List (PV × PV)} {ks : List (List Key × V)}, RepT c G kvs ks → ks.length = kvs.length
  | [], _, h => by rw [show _ = _ from h]; rfl
  | (_, _) :: r, _, h => by
    obtain ⟨q, v, s, rfl, _, _, hr⟩ := h
    rw [List.length_cons, List.length_cons, RepT.len hr]
theorem RepT.any {k : List Key} : ∀ {kvs : List (PV × PV)} {ks : List (List Key × V)}, RepT c G kvs ks → (ks.any fun kv => decide (kv.1 = k)) = kvs.any fun kv => PV.beq kv.1 (.tup (k.map keyP))
  | [], _, h => by rw [show _ = _ from h]; rfl
  | (_, _) :: r, _, h => by
    obtain ⟨q, v, s, rfl, rfl, _, hr⟩ := h
    rw [List.any_cons, List.any_cons, RepT.any hr, beq_keys]
theorem RepT.mapped {k : List Key} {x : PV} {v : V} (p : Rep c G x v) : ∀ {kvs : List (PV × PV)} {ks : List (List Key × V)}, RepT c G kvs ks → RepT c G (kvs.map fun kv => if PV.beq kv.1 (.tup (k.map keyP)) = true then (kv.1, x) else kv) (ks.map fun kv => if kv.1 = k then (kv.1, v) else kv)
  | [], _, h => by rw [show _ = _ from h]; rfl
  | (_, y) :: r, _, h => by
    obtain ⟨q, u, s, rfl, rfl, hy, hr⟩ := h
    have ih := RepT.mapped (k := k) p hr
    rw [List.map_cons, List.map_cons]
    by_cases e : q = k
    · have b : PV.beq (.tup (q.map keyP)) (.tup (k.map keyP)) = true := by rw [beq_keys]; exact decide_eq_true e
      simp only [b, if_true, if_pos e]
      exact ⟨q, v, _, rfl, rfl, p, ih⟩
    · have b : PV.beq (.tup (q.map keyP)) (.tup (k.map keyP)) = false := by rw [beq_keys]; exact decide_eq_false e
      simp only [b, Bool.false_eq_true, if_false, if_neg e]
      exact ⟨q, u, _, rfl, rfl, hy, ih⟩
theorem RepT.snoc {k : List Key} {x : PV} {v : V} (p : Rep c G x v) : ∀ {kvs : List (PV × PV)} {ks : List (List Key × V)}, RepT c G kvs ks → RepT c G (kvs ++ [(.tup (k.map keyP), x)]) (ks ++ [(k, v)])
  | [], _, h => by rw [show _ = _ from h]; exact ⟨k, v, [], rfl, rfl, p, rfl⟩
  | (_, _) :: r, _, h => by
    obtain ⟨q, u, s, rfl, rfl, hy, hr⟩ := h
    exact ⟨q, u, _, rfl, rfl, hy, RepT.snoc p hr⟩
theorem RepT.put {k : List Key} {x : PV} {v : V} {kvs : List (PV × PV)} {ks : List (List Key × V)} (h : RepT c G kvs ks) (p : Rep c G x v) : RepT c G (putP kvs (.tup (k.map keyP)) x) (putK ks k v) := by
  unfold putP putK
  rw [h.any]
  split
  · exact h.mapped p
  · exact h.snoc p
theorem RepT.keys : ∀ {kvs : List (PV × PV)} {ks : List (List Key × V)}, RepT c G kvs ks → kvs.map (·.1) = ks.map fun kv => .tup (kv.1.map keyP)
  | [], _, h => by rw [show _ = _ from h]; rfl
  | (_, _) :: rest, _, h => by
    obtain ⟨q, v, s, rfl, rfl, _, hr⟩ := h
    rw [List.map_cons, List.map_cons, RepT.keys hr]
def keysB : PV → Bool
  | .tup xs => xs.all keyB
  | _ => false
theorem keys_rep {k : List Key} (h : keysB (.tup (k.map keyP)) = true) : RepL c G (k.map keyP) (k.map kV) := by
  change ((k.map keyP).all keyB) = true at h
  rw [List.all_map] at h
  induction k with
  | nil => exact RepL.nil
  | cons x k ih =>
    rw [List.all_cons, Bool.and_eq_true] at h
    exact RepL.cons (key_rep h.1) (ih h.2)
theorem keys_step (s : Sub G H) {ks : List (List Key × V)} : ∀ {bs : List Addr}, IsKeys H ks bs → (∀ kv ∈ ks, keysB (.tup (kv.1.map keyP)) = true) → ∃ G', Step [] H G H G' ∧ RepL c G' (ks.map fun kv => .tup (kv.1.map keyP)) (bs.map V.ref) := fun {bs} h => by
  unfold IsKeys at h
  induction h with
  | nil => exact fun _ => ⟨G, Step.refl s, RepL.nil⟩
  | @cons kv b ks bs hb t ih =>
    intro hk
    obtain ⟨G1, st, rr⟩ := ih fun kv hm => hk kv (List.mem_cons_of_mem _ hm)
    have st2 := Step.key st.sub1 hb
    refine ⟨_, st.trans0 st2, RepL.cons ?_ (rr.mono st2.sub)⟩
    simp only [Rep]
    exact ⟨b, _, rfl, .inl upd_same, keys_rep (hk kv List.mem_cons_self)⟩
end
def ninDT : PV → PV → Option PV
  | k, .dct true kvs => (keys2 k).map fun _ => .bl (!hasP kvs k)
  | _, _ => none
section
variable {X : Cx} {c : TC} {r : Ref} {W : WX} {a b o e : Expr} {ea eb ek : EvE} {i : Nat} {pos pos' : Pos}
theorem RepT.has {G : Hp} {k : List Key} {kvs : List (PV × PV)} {ks : List (List Key × V)} (h : RepT c G kvs ks) : (valV ks k).isSome = hasP kvs (.tup (k.map keyP)) := by
  rw [← valV_any]
  exact h.any
theorem op_ninDT (hu : X.A.units + 1 < cLine) : OpP X c (compareOp .NotIn) ninDT := fun G H t1 t2 t v1 v2 Q h s w1 w2 q => by
  unfold ninDT at h
  split at h
  · rename_i kvs
    cases hk : keys2 t1 with
    | none => rw [hk] at h; cases h
    | some y =>
      rw [hk] at h
      cases h
      obtain ⟨b, rfl, hb, ek⟩ := keys2_w hk w1
      obtain ⟨p, rfl, hx⟩ := w2
      rcases hx with ⟨z, _⟩ | ⟨_, ks, hx, rk⟩
      · cases z
      · refine ⟨_, opr_ninD hu, p, _, rfl, DGet.t hx (s _ _ hb), ?_⟩
        rw [rk.has, ← ek]
        exact q.flat s rep_bl
  · cases h
@[simp] def fDct0T : EvF := fun env => .ok (.dct true []) env
theorem pf_dct0T : PE X (.Dict [] [] pos) (TFof c r W fDct0T) := PE.imp pe_dnewT fun σ H Q ⟨ads, G, env, R, h⟩ => fun p hp => by
  exact h ads G _ p [p] (R.lay hp) (Nxt.of (Step.allocO R.sub hp)) ⟨rfl, .inr ⟨rfl, [], upd_same, rfl⟩⟩ fun b hb => by rw [List.mem_singleton.mp hb]; exact ⟨New.of R hp, hp⟩
def isOwT : Option (Option Arg) → Bool
  | some (some (.ow (.dct true _))) => true
  | _ => false
@[simp] def sDputT (i : Nat) (ek ea : EvE) : EvS := fun env => (ea env).so fun x e1 => if isOwT e1[i]? then (ek e1).so fun y e2 => (match x, y, e2[i]? with
  | .tr t, .tr k, some (some (.ow (.dct true kvs))) => (match keys2 k with
    | some _ => if kvs.length < LIM then .nx (e2.set i (some (.ow (.dct true (putP kvs k t))))) else .bad
    | none => .bad)
  | _, _, _ => .bad) else .bad
theorem ts_dputT {idx : Expr} (hu : X.A.units + 1 < cLine) (ho : PE X o (tVar i)) (hi : PE X idx (TEof c r W ek)) (he : PE X e (TEof c r W ea)) (hs : swapsWith e (some (.Subscript o idx pos')) pos.line X.env = pure false := by rfl) :
    PS X (.Assign [.Subscript o idx pos'] e pos) (TSof c r W (sDputT i ek ea)) := PS.imp (ps_dput hu ho hi he hs) fun D σ H ⟨ads, G, env, R, h⟩ => by
  refine ⟨ads, G, env, R, Sat_mono (RE.so_Sat.mp h) (fun x e1 h1 ads1 G1 H1 v1 R1 s1 p1 => ?_) fun x e z => XC.of z⟩
  by_cases ol : isOwT e1[i]? = true
  rotate_left
  · rw [if_neg ol] at h1; exact h1.elim
  rw [if_pos ol] at h1
  have ol' : ∃ kvs, e1[i]? = some (some (.ow (.dct true kvs))) := by
    unfold isOwT at ol
    split at ol
    · rename_i kvs q; exact ⟨kvs, q⟩
    · cases ol
  obtain ⟨kvs0, q0⟩ := ol'
  obtain ⟨p, sp, _⟩ := slot_own R1 q0
  refine ⟨.ref p, sp, ads1, G1, e1, R1, Sat_mono (RE.so_Sat.mp h1) (fun y e2 h2 ads2 G2 H2 v2 R2 s2 p2 => ?_) fun x e z => XC.weak (XC.of z) s1.sub⟩
  cases x with
  | sl i => exact h2.elim
  | tr t =>
    cases y with
    | sl i => exact h2.elim
    | tr k =>
      cases q : e2[i]? with
      | none => simp only [q] at h2; exact h2.elim
      | some s =>
        cases s with
        | none => simp only [q] at h2; exact h2.elim
        | some a =>
          cases a with
          | t _ => simp only [q] at h2; exact h2.elim
          | ow w =>
            cases w with
            | dct tt kvs =>
              cases tt with
              | false => simp only [q] at h2; exact h2.elim
              | true =>
                simp only [q] at h2
                cases hk : keys2 k with
                | none => simp only [hk] at h2; exact h2.elim
                | some key =>
                  simp only [hk] at h2
                  by_cases hl : kvs.length < LIM
                  rotate_left
                  · rw [if_neg hl] at h2; exact h2.elim
                  rw [if_pos hl] at h2
                  obtain ⟨p', sp', ow⟩ := slot_own R2 q
                  rw [sp] at sp'
                  cases sp'
                  obtain ⟨had, hx⟩ := ow
                  rcases hx with ⟨z, _⟩ | ⟨_, ks, hH, rk⟩
                  · cases z
                  · obtain ⟨b, rfl, hb, ekk⟩ := keys2_w hk (Rep.w R2.sub p2)
                    have rt : Rep c G2 t v1 := Rep.mono s2.sub p1
                    refine ⟨p, _, rfl, DPut.t hH (R2.sub _ _ hb) (by rw [rk.len]; exact Nat.lt_of_lt_of_le hl (lim_line (Nat.le_refl _))), ?_⟩
                    have own : p ∈ ads2 i := by rw [had]; exact List.mem_singleton.mpr rfl
                    have rput := rk.put (k := key) rt
                    rw [← ekk] at rput
                    have R3 := R2.write sp own hH (ho' := .dT (putK ks key v1)) (o := .dct true (putP kvs k t)) ⟨had, .inr ⟨rfl, _, upd_same, rput⟩⟩
                    exact h2 _ G2 _ _ R3 (s1.sub.trans s2.sub)
            | _ => simp only [q] at h2; exact h2.elim
@[simp] def fKeysT (i : Nat) : EvF := fun env => match env[i]? with
  | some (some (.ow (.dct true kvs))) => if (kvs.all fun kv => keysB kv.1) = true then .ok (.lst (kvs.map (·.1))) env else .bad
  | _ => .bad
theorem keys_good {G : Hp} {kvs : List (PV × PV)} {ks : List (List Key × V)} (rk : RepT c G kvs ks) (h : (kvs.all fun kv => keysB kv.1) = true) : ∀ kv ∈ ks, keysB (.tup (kv.1.map keyP)) = true := fun kv hm => by
  have : (.tup (kv.1.map keyP) : PV) ∈ kvs.map (·.1) := by rw [rk.keys]; exact List.mem_map.mpr ⟨kv, hm, rfl⟩
  obtain ⟨kv', hm', e'⟩ := List.mem_map.mp this
  have := List.all_eq_true.mp h kv' hm'
  rw [e'] at this
  exact this
theorem pf_keysT {p : Pos} (hc : X.calm = true) (hg : Gl X "list") (hm : X.mg "list" = none) (ho : PE X o (tVar i)) (h1 : starEach [o] X.env = (false, eval o X.env) :: starEach [] X.env := by rfl) (hpl : (backTo pos (starEach ([] : List Expr) X.env)).any (·.1) = false := by rfl) :
    PE X (.Call (.Name "list" p) [o] [] pos) (TFof c r W (fKeysT i)) :=
  PE.imp (pe_callTy (call_list_dT hc) hg hm boot_list (pa_cons ho pa_nil h1) (by decide) (by decide) h1 hpl) fun σ H Q ⟨ads, G, env, R, h⟩ => by
    simp only [fKeysT] at h
    cases q : env[i]? with
    | none => simp only [q] at h; exact h.elim
    | some u =>
      cases u with
      | none => simp only [q] at h; exact h.elim
      | some u =>
        cases u with
        | t _ => simp only [q] at h; exact h.elim
        | ow u =>
          cases u with
          | dct tt kvs =>
            cases tt with
            | false => simp only [q] at h; exact h.elim
            | true =>
              simp only [q] at h
              by_cases hk : (kvs.all fun kv => keysB kv.1) = true
              rotate_left
              · rw [if_neg hk] at h; exact h.elim
              rw [if_pos hk] at h
              obtain ⟨d, sd, ow⟩ := slot_own R q
              obtain ⟨had, hx⟩ := ow
              rcases hx with ⟨z, _⟩ | ⟨_, ks, hH, rk⟩
              · cases z
              · refine ⟨.ref d, sd, d, ks, rfl, .inl hH, fun p' bs hp ik => ?_⟩
                obtain ⟨G', st, rr⟩ := keys_step (c := c) R.sub ik (keys_good rk hk)
                have R2 := R.next st
                have e : kvs.map (·.1) = ks.map fun kv => .tup (kv.1.map keyP) := rk.keys
                refine h ads G' _ p' [p'] (R2.lay hp) ((Nxt.of st).trans (Nxt.of (Step.allocO R2.sub hp))) ⟨rfl, _, upd_same, by rw [e]; exact rr⟩ fun b hb => ?_
                rw [List.mem_singleton.mp hb]
                exact ⟨New.of R2 hp, hp⟩
          | _ => simp only [q] at h; exact h.elim
end
section
variable {X : Cx} {c : TC} {r : Ref} {W : WX} {e tg : Expr} {td : TE}
def iKeysNT (td : TE) : TI := fun σ H R => td σ H fun x H1 => ∃ d kvs, x = .ref d ∧ H1 d = some (.dT kvs) ∧ ∀ od, R (Itkt d od kvs) (upd H1 d (.frz od (.dT kvs)))
theorem pi_keysNT (he : PE X e td) : PI X tg e (iKeysNT td) := by
  refine ⟨fun pins s σ H R I h => thn (he.run pins s σ H _ I h) fun u s1 ⟨x, H1, I1, rx, d, kvs, ex, hd, q⟩ => ?_⟩
  subst ex
  obtain rfl : u = Value.ref d := rx
  obtain ⟨od, I2⟩ := I1.lock hd trivial
  obtain ⟨a1, a2, a3, es, ep, a5, a6, a7⟩ := I2.frzT (d := d) upd_same
  refine iter_keys a1 a2 a3 a5 (pi_one (tk := s1.toks) I2 _ (turn_keysT _ a5) ⟨_, Heap.get?_push_size _ rfl, rfl, ?_⟩ (q od))
  rw [a6] <;> rfl
theorem itok_keysT {G : Hp} {d : Addr} {od : Obj} {x : Vl} {ks : List (List Key × V)} (h : G d = some (.frz od (.dT ks))) (hk : ∀ kv ∈ ks, keysB (.tup (kv.1.map keyP)) = true) : ItOk c r G x (ks.map fun kv => .tup (kv.1.map keyP)) (Itkt d od ks) := fun i ads G' H σ env R s1 _ => by
  have hH := R.sub _ _ (s1 _ _ h)
  refine ⟨fun t ht => ?_, fun hl => ⟨hH, by simpa using hl⟩⟩
  rw [List.getElem?_map] at ht
  obtain ⟨kv, hkv, rfl⟩ := Option.map_eq_some_iff.mp ht
  refine ⟨⟨hH, (List.getElem?_eq_some_iff.mp hkv).1⟩, fun x H' y => ?_⟩
  obtain ⟨rfl, k, v, q, e, rfl, hq⟩ := y
  rw [hkv] at e
  cases e
  refine ⟨_, Step.key R.sub hq, ?_⟩
  simp only [Rep]
  exact ⟨q, _, rfl, .inl upd_same, keys_rep (hk _ (List.mem_of_getElem? hkv))⟩
@[simp] def iKeyTF (ef : EvF) : EvI := fun env => (ef env).bind fun o e => match o with
  | .dct true kvs => if (kvs.all fun kv => keysB kv.1) = true then .ok ⟨kvs.map (·.1), .tr .non⟩ e else .bad
  | _ => .bad
theorem ti_keyTF {ef : EvF} (he : PE X e (TFof c r W ef)) : PI X tg e (TIof c r W (iKeyTF ef)) := PI.imp (pi_keysNT he) fun σ H K ⟨ads, G, env, R, h⟩ => by
  refine ⟨ads, G, env, R, Sat_mono (Sat_bind.mp h) (fun o e1 h1 ads1 G1 H1 p1 ad R1 s1 ow nw => ?_) fun _ _ z => z⟩
  cases o with
  | dct t kvs =>
    cases t with
    | false => exact h1.elim
    | true =>
      dsimp only at h1
      by_cases hk : (kvs.all fun kv => keysB kv.1) = true
      rotate_left
      · rw [if_neg hk] at h1; exact h1.elim
      rw [if_pos hk] at h1
      obtain ⟨had, hx⟩ := ow
      rcases hx with ⟨z, _⟩ | ⟨_, ks, hH, rk⟩
      · cases z
      · refine ⟨p1, ks, rfl, hH, fun od => ?_⟩
        obtain ⟨n1, n2⟩ := nw p1 (by rw [had]; exact List.mem_singleton.mpr rfl)
        have R2 : RS c r ads1 G1 (upd H1 p1 (.frz od (.dT ks))) σ e1 := R1.relay n1
        obtain ⟨s3, R3⟩ := R2.know (p := p1) (ho := .frz od (.dT ks)) upd_same n1
        have nx : Nxt ads G H ads1 G1 (upd H1 p1 (.frz od (.dT ks))) := ⟨s1.sub, fun a u e n => by
          have z := s1.hold a u e n
          refine ⟨?_, z.2⟩
          rw [upd_ne (fun w => by rw [w, n2] at e; cases e)]
          exact z.1, fun a e => by
          by_cases w : a = p1
          · rw [w, upd_same] at e; cases e
          · rw [upd_ne w] at e; exact s1.there a e⟩
        have it : ItOk c r (upd G1 p1 (.frz od (.dT ks))) (.tr .non) (kvs.map (·.1)) (Itkt p1 od ks) := by rw [rk.keys]; exact itok_keysT upd_same (keys_good rk hk)
        exact h1 ads1 _ _ _ R3 (nx.fresh n1.1 n2) it
  | _ => exact h1.elim
end
end TreeL
end
section
namespace TreeL
open PySem PySem.Spec PyProof.Rows L2
def onceS (σ xs : List Str) : List Str := xs.foldl step_dedup σ
theorem once_any (σ : List Str) (k z : Str) : (step_dedup σ k).any (· == z) = (σ.any (· == z) || decide (z = k)) := by
  unfold step_dedup
  by_cases h : σ.any (· == k) = true
  · rw [if_pos h]
    by_cases e : z = k
    · subst e; rw [h]; rfl
    · simp [e]
  · rw [if_neg h, List.any_append]
    by_cases e : z = k
    · subst e; simp
    · have : (k == z) = false := by simpa using fun y : k = z => e y.symm
      simp [e, this]
theorem once_len (σ : List Str) (k : Str) : (step_dedup σ k).length = if σ.any (· == k) then σ.length else σ.length + 1 := by
  unfold step_dedup
  split <;> simp
section
variable {P : Program} {w : World} {A : Around} {R : Result → Shared → Prop} {it : Addr} {fp wr : List Addr} {J : Array GenState → Array GenState → Prop} {n : Nat} {Y : Nat → Value → Prop} {St : Nat → Shared → Prop}
theorem once_loop (W : WalksS P w A.in1 it fp wr J n Y St) {S : Addr} (nS : S ∉ fp) {xs : List Str} (ln : xs.length = n) (small : n + 1 < scanBound) (val : ∀ i v, Y i v → ∃ t, v = .str (xs.getD i Str.empty) t) :
    ∀ (m i : Nat) (s : Shared) (σ : List Str), n - i = m → i ≤ n → σ.length ≤ i → St i s → s.heap.SetOf (PySem.strKind P w) S (fun z => σ.any (· == z)) σ.length →
      (∀ s', Moved (S :: wr) J s s' → s'.heap.SetOf (PySem.strKind P w) S (fun z => (onceS σ (xs.drop i)).any (· == z)) (onceS σ (xs.drop i)).length → R (.ok (.ret .none)) s') →
      codeAny (model P w) A (.builtin "set.update.loop" ⟨[.ref S, .ref it], []⟩) R s := by
  have nw : S ∉ wr := fun h => nS (W.sub _ h)
  have wide : ∀ b ∈ wr, b ∈ S :: wr := fun _ hb => List.mem_cons_of_mem _ hb
  have stays : ∀ {s s' : Shared} {f : Str → Bool} {c : Nat}, Moved wr J s s' → s.heap.SetOf (PySem.strKind P w) S f c → s'.heap.SetOf (PySem.strKind P w) S f c := fun mv h => by
    obtain ⟨o, es, ep, t, ho, r⟩ := h
    exact ⟨o, es, ep, t, mv.heap S _ nw ho, r⟩
  intro m
  induction m with
  | zero =>
    intro i s σ em hi hl st hS hR
    have e : i = n := by omega
    subst e
    refine codeAny_builtin PyProof.Rows.F.entry_set_update_loop ?_
    rw [Around.under_plainId PyProof.Rows.F.plain_set_update_loop _]
    refine wpAny_bind (W.done s _ _ st fun s' mv => wpAny_pure (hR s' (mv.mono wide) ?_))
    rw [List.drop_of_length_le (by omega)]
    exact stays mv hS
  | succ m ih =>
    intro i s σ em hi hl st hS hR
    have lt : i < n := by omega
    refine codeAny_builtin PyProof.Rows.F.entry_set_update_loop ?_
    rw [Around.under_plainId PyProof.Rows.F.plain_set_update_loop _]
    refine wpAny_bind (W.item i s _ _ lt st fun v s' hv st' mv => ?_)
    obtain ⟨t, rfl⟩ := val i v hv
    generalize hz : xs.getD i Str.empty = z
    have dr : xs.drop i = z :: xs.drop (i + 1) := by
      rw [List.drop_eq_getElem_cons (by omega), ← hz, List.getD_eq_getElem?_getD, List.getElem?_eq_getElem (by omega)]
      rfl
    have hS' := stays mv hS
    refine wpAny_bind (wpAny_holding ?_)
    unfold setAdd
    refine wpAny_holding (wpAny_bind ((PySem.strKind P w).pyHash (k := z) (strKind_is _ _ _ _) ?_))
    refine wpAny_setAddHashed_of (knd := PySem.strKind P w) (s := { s' with toks := s'.toks + 1 }) (strKind_is _ _ _ _) rfl hS' (by omega) fun h' same hS2 => ?_
    have hS3 : h'.SetOf (PySem.strKind P w) S (fun k => (step_dedup σ z).any (· == k)) (step_dedup σ z).length :=
      SetOf_congr hS2 (fun k => (once_any σ z k).symm) (once_len σ z).symm
    have l3 : (step_dedup σ z).length ≤ i + 1 := by
      rw [once_len]
      split <;> omega
    refine wpAny_pure ⟨plainId_quiet PyProof.Rows.F.plain_set_update_loop _, ih (i + 1) _ _ (by omega) lt l3 (W.frame _ s' _ _ st' (Nat.le_succ _) fun b hb o e => ?_) hS3 fun s2 mv2 hS4 => ?_⟩
    · rw [same.2 b (fun y : b = S => nS (by rw [← y]; exact hb))]; exact e
    · refine hR s2 (Moved.trans W.gtrans ((mv.mono wide).then_heap (Nat.le_succ _) fun b o hb e => ?_) mv2) (by rw [dr]; exact hS4)
      rw [same.2 b (fun y : b = S => hb (by rw [y]; exact List.mem_cons_self))]; exact e
end
abbrev set0 (led : Bool) : Obj := { cls := .type "set", dict := none, data := .set #[] 0 (.fresh 0 0 led) }
section
variable {P : Program} {w : World} {A : Around} {E : Value → Shared → Prop} {s : Shared}
set_option maxHeartbeats 6400000 in
theorem set_of_strs {l : Addr} {its : Array Value} {xs : List Str} {Q : Value → Shared → Prop} (hh : A.handled = none) (hl : s.heap.IsList l its) (hi : StrsAre its.toList xs) (small : xs.length + 1 < scanBound)
    (h : ∀ (h' : Heap) (tk : Nat), h'.SetOf (PySem.strKind P w) s.heap.objs.size (fun z => (onceS [] xs).any (· == z)) (onceS [] xs).length →
      (∀ b o, b < s.heap.objs.size → s.heap.get? b = some o → h'.get? b = some o) → Q (.ref s.heap.objs.size) { s with heap := h', toks := tk }) :
    wpAny (model P w) A (call (.type "set") [.ref l]) Q E s := by
  obtain ⟨_, _, mro⟩ := PySem.F.called_set.mro
  have made := PySem.F.called_set.made
  have sub := PySem.F.called_set.sub
  have nt := PySem.F.called_set.notType
  have cc := PySem.F.called_set.canCreate
  have tc := PySem.F.typeCall_set_1 (Value.ref l)
  obtain ⟨⟨lc, ld, lx, lsl⟩, hol, hcl, nl, hdl⟩ := hl
  simp only at hcl hdl
  subst hcl; subst hdl
  have lt : l < s.heap.objs.size := Heap.lt_size hol
  refine wpAny_call (codeAny_of_tree ?_)
  show wpAny _ _ (PySem.callAny (Value.type "set") _) _ _ _
  refine wpAny_pure ⟨Code.quiet_builtin _ (by decide +kernel), codeAny_builtin PySem.F.entry_type_call ?_⟩
  rw [Around.under_plain (weight_type_call_type "set" [.ref l] []) rfl]
  repeat (any_goals (first | assumption | wp_step))

  refine codeAny_mono (code_set_new_1 (Value.ref l) (E := E) (Q₁ := fun o s₁ => ∃ led : Bool, o = .ref s.heap.objs.size ∧ s₁ = { s with heap := s.heap.push (set0 led) }) fun led => ⟨led, rfl, rfl⟩) fun r s₁ hr => ?_
  cases r with
  | error e => exact hr
  | ok fl =>
    cases fl with
    | ret o =>
      obtain ⟨led, rfl, rfl⟩ := hr
      have at0 : (s.heap.push (set0 led)).get? s.heap.objs.size = some (set0 led) := Heap.get?_push_size _ rfl
      have ty : Shared.TypeIs { s with heap := s.heap.push (set0 led) } (.ref s.heap.objs.size) "set" := ⟨_, at0, rfl⟩
      have il := PySem.F.called_set.init.lookup
      have ib := PySem.F.called_set.init.bind (.ref s.heap.objs.size)
      repeat (any_goals (first | assumption | wp_step))

      refine codeAny_mono (codeAny_call_builtin (R := wants (fun r s₂ => r = .none ∧ ∃ h' tk, s₂ = { s with heap := h', toks := tk } ∧ h'.SetOf (PySem.strKind P w) s.heap.objs.size (fun z => (onceS [] xs).any (· == z)) (onceS [] xs).length ∧
          (∀ b o, b < s.heap.objs.size → s.heap.get? b = some o → h'.get? b = some o)) E) PySem.F.called_set.init.plain PySem.F.entry_set_init (check_set_init_1 ty ?_)) fun r₂ s₂ hr₂ => ?_
      · have hol' : (s.heap.push (set0 led)).get? l = some { cls := .type "list", dict := ld, data := .seq its nl, slots := lsl } := Heap.get?_push_of_some _ hol
        have s1 := PySem.F.sub_list_set
        have s2 := PySem.F.sub_list_frozenset
        have nd : (Value.type "list" == Value.type "dict") = false := by decide
        have isl : (s.heap.push (set0 led)).IsList l its := ⟨_, hol', rfl, nl, rfl⟩
        unfold Builtin.«set.__init__» noKeywords Builtin.Frozenset.updateFrom
        generalize hPI : pyIter = PI
        wp_walk
        subst hPI
        refine wpAny_pyIter_list isl (wpAny_bind (wpAny_runValue ?_))
        have h3 : A.in1.in1.in1.handled = none := by simp [hh]
        have sz : (s.heap.push (set0 led)).objs.size = s.heap.objs.size + 1 := Heap.size_push ..
        have nI : l ≠ (s.heap.push (set0 led)).objs.size := by rw [sz]; exact Nat.ne_of_lt (Nat.lt_succ_of_lt lt)
        have nS : s.heap.objs.size ∉ [(s.heap.push (set0 led)).objs.size, l] := by
          rw [sz]
          intro m
          rcases List.mem_cons.mp m with z | m
          · exact absurd z (Nat.ne_of_lt (Nat.lt_succ_self _))
          · exact absurd (List.mem_singleton.mp m) (Nat.ne_of_gt lt)
        have ln : xs.length = its.size := by rw [← StrsAre.len_eq hi, Array.length_toList]
        refine once_loop ((Walks.list h3 _ l nI its).toS) nS ln (by rw [← ln]; exact small) (fun i v hv => SS.strs_at hi i v (by rw [Array.getElem?_toList]; exact hv)) its.size 0 _ [] (by omega) (Nat.zero_le _) (Nat.le_refl _)
          ⟨⟨_, Heap.get?_push_size _ rfl, rfl, rfl⟩, isl.push _⟩ ?_ fun s' mv hS => ?_
        · exact (PyProof.Rows.setObjOf_fresh (knd := PySem.strKind P w) led).setOf (Heap.get?_push_of_some _ at0) (by unfold scanBound; omega)
        · obtain ⟨h', g', d', tk', os'⟩ := s'
          have e1 : g' = s.gens := mv.gens
          have e2 : d' = s.drawn := mv.drawn
          have e3 : os' = s.os := mv.os
          subst e1; subst e2; subst e3
          refine wpAny_pure ?_
          show wpAny _ _ (ret Value.none) _ _ _
          refine wpAny_pure ⟨rfl, h', tk', rfl, hS, fun b o hb e => mv.heap b o (fun m => ?_) (Heap.get?_push_of_some _ (Heap.get?_push_of_some _ e))⟩
          rcases List.mem_cons.mp m with z | m
          · exact absurd z (Nat.ne_of_lt hb)
          · rw [List.mem_singleton.mp m, sz] at hb
            exact absurd hb (Nat.not_lt_of_lt (Nat.lt_succ_self _))
      · cases r₂ with
        | error e => exact hr₂
        | ok fl₂ =>
          cases fl₂ with
          | ret r =>
            obtain ⟨rfl, h', tk, rfl, hS, hk⟩ := hr₂
            repeat (any_goals (first | assumption | wp_step))
            exact h _ _ hS hk
          | _ => exact hr₂.elim
    | _ => exact hr.elim
end
end TreeL
end
section
namespace TreeL
open PySem PySem.Spec PyProof.Rows L2
def tLenSetS (K : PySem.W.Frag) (ta : TE) : TE := fun σ H Q => ta σ H fun x H1 => ∃ l, ∃ xs : List Str, x = .ref l ∧ SqL K H1 l (xs.map V.str) ∧ xs.length ≤ 4000 ∧ Q (.int (onceS [] xs).length) H1
section
variable {X : Cx} {c : TC} {r : Ref} {W : WX} {a : Expr} {ea : EvE} {ta : TE} {p p2 q pos : Pos}
theorem pe_lenSetS (hc : X.calm = true) (hg : Gl X "len") (hm : X.mg "len" = none) (hg2 : Gl X "set") (hm2 : X.mg "set" = none) (ha : PE X a ta)
    (na : starEach [a] X.env = (false, eval a X.env) :: starEach [] X.env := by rfl) : PE X (.Call (.Name "len" p) [.Call (.Name "set" p2) [a] [] q] [] pos) (tLenSetS X.K ta) := ⟨fun pins s σ H Q I h => by
  refine Call_ (ld_blt I hg hm boot_len (callWith_builtin1 (args_cons ?_ rfl) rfl rfl))
  refine Call_ (ld_blt I hg2 hm2 boot_set (callWith_type1 (args_cons (thn (ha.run pins s σ H _ I h) fun v s1 ⟨x, H1, I1, r1, l, xs, ex, hq, l1, q1⟩ => args_nil ?_) na) na rfl))
  subst ex
  cases r1
  obtain ⟨its, rv, pl, _⟩ := I1.list hq
  refine set_of_strs (I1.ok.hd hc) pl.isList (by simpa using strsAre_of rv) (by unfold scanBound; omega) fun h' tk hS hk => args_nil ?_
  obtain ⟨o, es, ep, t, ho, hex, hd, _, _, _, hf, hn⟩ := hS
  have le : (onceS [] xs).length ≤ xs.length := foldl_step_dedup_nil_length_le xs
  have I2 : Inv X pins σ H1 { s1 with heap := h', toks := tk } := I1.kept fun b o e => hk b o (Heap.lt_size e) e
  exact call_len_set ho hex hd hf (by rw [hn]; omega) ⟨.int (onceS [] xs).length, H1, I2.tok _, ⟨_, by rw [hn]⟩, q1⟩⟩
@[simp] def eLenSet (ea : EvE) : EvE := fun env => (ea env).bind fun x e => match look e x with
  | some (.lst ts) => (match strsP ts with
    | some ss => if ss.length ≤ 4000 then .ok (.tr (.int (onceS [] ss).length)) e else .bad
    | none => .bad)
  | _ => .bad
theorem pt_lenSet (hK : X.K = c.K) (hc : X.calm = true) (hg : Gl X "len") (hm : X.mg "len" = none) (hg2 : Gl X "set") (hm2 : X.mg "set" = none) (ha : PE X a (TEof c r W ea))
    (na : starEach [a] X.env = (false, eval a X.env) :: starEach [] X.env := by rfl) : PE X (.Call (.Name "len" p) [.Call (.Name "set" p2) [a] [] q] [] pos) (TEof c r W (eLenSet ea)) := PE.imp (pe_lenSetS hc hg hm hg2 hm2 ha na) fun σ H Q ⟨ads, G, env, R, h⟩ => by
  refine ⟨ads, G, env, R, Sat_mono (Sat_bind.mp h) (fun x e1 h1 ads1 G1 H1 v1 R1 s1 p1 => ?_) fun _ _ z => z⟩
  cases q1 : look e1 x with
  | none => simp only [q1] at h1; exact h1.elim
  | some t =>
    cases t with
    | lst ts =>
      simp only [q1] at h1
      cases q2 : strsP ts with
      | none => simp only [q2] at h1; exact h1.elim
      | some ss =>
        simp only [q2] at h1
        by_cases hl : ss.length ≤ 4000
        rotate_left
        · rw [if_neg hl] at h1; exact h1.elim
        rw [if_pos hl] at h1
        obtain ⟨l, vs, rfl, hx, rr⟩ := look_rep R1 p1 q1
        obtain ⟨rfl, _⟩ := strs_rep rr q2
        exact ⟨l, ss, rfl, .inl (.inl hx), hl, h1 ads1 G1 H1 _ R1 s1 (rep_int (c := c) G1)⟩
    | _ => simp only [q1] at h1; exact h1.elim
end
end TreeL
end
section
namespace TreeL
open PySem PySem.Spec PyProof.Rows L2 LamX
@[simp] def rAskB (i : Nat) (e0 : En) (ev : EvE) : EvR := fun env => match (env[0]? : Option (Option Arg)) with
  | some (some (.ow (.boxF great fs))) => (match ev (e0.set i (some (.ow (.boxD great fs)))) with
    | .ok x e => (match treeOf e x, (e[i]? : Option (Option Arg)) with
      | some t, some (some (.ow (.boxD g f))) => .ok (.t t) (env.set 0 (some (.ow (.boxF g f))))
      | _, _ => .bad)
    | .exc y e => (match (e[i]? : Option (Option Arg)) with
      | some (some (.ow (.boxD g f))) => .exc y (env.set 0 (some (.ow (.boxF g f))))
      | _ => .bad)
    | .bad => .bad)
  | _ => .bad
@[simp] def toldEndB (i : Nat) (env : En) : SO → RE Arg
  | .rt (.t t) e => (match (e[0]? : Option (Option Arg)) with
    | some (some (.ow (.boxF g f))) => .ok (.t t) (env.set i (some (.ow (.boxD g f))))
    | _ => .bad)
  | _ => .bad
@[simp] def rToldB (n i : Nat) (js : List Nat) (B : EvR → EvS) (ev : EvE) : EvR := fun env => match (env[0]? : Option (Option Arg)), (env[i]? : Option (Option Arg)) with
  | some (some (.ow (.scrT _))), some (some (.ow (.boxD great fs))) => toldEndB i env (B (rAskB i (hideE js env) ev) (some (.ow (.boxF great fs)) :: List.replicate (n - 1) none))
  | _, _ => .bad
theorem RS.hiddenB {c : TC} {r : Ref} {ads : Nat → List Addr} {G H G' H' : Hp} {σ : L2.St} {env : En} {js : List Nat} {i : Nat} {a q : Addr} {great : List Int} {fs : List (Str × Int)} (hi : i ∉ js) (R : RS c r ads G H σ env) (s : Sub G G') (s1 : Sub G' H') (e : σ[i]? = some (some (.ref a))) (li : i < env.length) (ne : a ≠ q)
    (h1 : H' q = some (.lst (great.map V.int))) (h2 : H' a = some (.dK (bxK q fs))) (g : ∀ y ∈ [a, q], G' y = none) :
    RS c ⟨H', G', [a, q], [(i, .ref a, [a, q])]⟩ (fun j => if j = i then [a, q] else []) G' H' (L2.wipe σ js) ((hideE js env).set i (some (.ow (.boxD great fs)))) where
  step := Step.refl s1
  len := by
    unfold hideE
    rw [List.length_set, List.length_map, wipeE_length, wipe_length, R.len]
  slot := fun j => by
    have ll : i < (hideE js env).length := by
      unfold hideE
      rw [List.length_map, wipeE_length]; exact li
    by_cases z : j = i
    · subst z
      rw [if_pos rfl, join_set_self ll, wipe_out hi, e]
      exact ⟨a, rfl, q, rfl, ne, h1, h2⟩
    · rw [if_neg z, join_set_ne (Ne.symm z), hideE_join]
      by_cases m : j ∈ js
      · rw [if_pos m]; exact rfl
      · rw [if_neg m, wipe_out m]
        have z := R.slot j
        cases q : env[j]?.join with
        | none => exact rfl
        | some b =>
          cases b with
          | ow o => exact rfl
          | t t =>
            rw [q] at z
            cases w : σ[j]?.join with
            | none => rw [w] at z; exact z.elim
            | some v => rw [w] at z; exact ⟨rfl, z.2.mono s⟩
  own := fun j y hy => by
    by_cases z : j = i
    · rw [if_pos z] at hy
      exact ⟨g y hy, .inl ⟨by rw [z]; exact List.mem_singleton.mpr rfl, hy⟩⟩
    · rw [if_neg z] at hy; cases hy
  disj := fun j l y hy hz => by
    by_cases z : j = i
    · by_cases z2 : l = i
      · rw [z, z2]
      · rw [if_neg z2] at hz; cases hz
    · rw [if_neg z] at hy; cases hy
  pin := fun p hp => by
    rw [List.mem_singleton.mp hp]
    exact ⟨by rw [wipe_out hi]; exact e, if_pos rfl⟩
section
variable {X : Cx} {c : TC} {r : Ref} {W : WX} {x a : Str} {g k : Addr} {kk n : Nat} {pg : Arguments} {bg : List Stmt} {sg : Scope} {fd : FuncData} {Ng : List Str} {ar : Arguments} {be : Expr} {scope : Scope} {js : List Nat} {B : EvR → EvS} {ev : EvE} {p lpos pos : Pos}
theorem tr_toldB {i : Nat} (F : FunD X.K x x pg bg sg [] [] g fd) (S : FnScope Ng [a] sg) (hn : Ng.length = n) (hb : Binds X.K fd [a] []) (hg : Gl X x) (hm : X.mg x = some (.ref g)) (TB : TabB X.base X.mg k c.tab) (hk : X.env.code = .ref k) (hl : X.env.qual ++ "<lambda>" = c.lam)
    (hr : RoomG (kk + 2) X.A) (nd : X.N.Nodup) (L : LamL X.N js X.env.scope scope) (hdef : defaultsOf ar X.env = ([], []))
    (hbind : ∀ (q : Str) (cl : List (Str × Addr)) (pm cv ct : Value), bindArgs (PySem.W.kla_fn "<lambda>" q ar be scope cl pm cv ct) ⟨[], []⟩ = pure [])
    (hbody : ∀ (A : Around) (l : List Env) (t : Shared) (HZ : Hp) (E : XK) (f k' : Addr) (r' : Ref), let Y := lamCx X A l t HZ E scope f k'; RoomG kk Y.A → r'.pins.map Prod.fst = [i] → Takes Y (fun cls d _ H' => E cls d H') → PE Y be (TEof c r' (fun cls d _ H' => E cls d H') ev))
    (htold : ∀ (cdv : Value) (s : Shared) (H : Hp) (E : XK) (rZ : Ref) (w : EvR), let Z := cxOf (L2.CX X.prog X.w) X.prog X.w X.K X.mg X.base Ng x sg g cdv X.A X.stack s H E; RoomG (kk + 1) Z.A → rZ.pins.map Prod.fst = [0] → Takes Z (fun cls d _ H' => E cls d H') → PassesOwn (model X.prog X.w) Z.A Z.env Z.xe →
      (∀ (pn : List (Addr × Obj)) (xe : Value → Shared → Prop) (W' : WX) (p1 p2 : Pos), Takes (Z.tr pn xe) W' → PE (Z.tr pn xe) (.Call (.Name a p1) [] [] p2) (TRof c rZ W' w)) → PSs Z bg (TSof c rZ (fun cls d _ H' => E cls d H') (B w)))
    (hij : i ∉ js) (hn1 : 0 < n) (hva : Vis sg a) (hdb : (x == ("__debug__" : Str)) = false := by decide) (hd : (a == ("__debug__" : Str)) = false := by decide) (hcd : (a == ("__classdict__" : Str)) = false := by decide) :
    PE X (.Call (.Name x p) [.Lambda ar be scope lpos] [] pos) (TRof c r W (rToldB n i js B ev)) := by
  refine ⟨fun pins s σ H Q J h => ?_⟩
  obtain ⟨ads, G, env, R, h⟩ := h
  unfold rToldB at h
  split at h
  rotate_left
  · exact h.elim
  rename_i ns great fs e0 eI
  have hN0 : Ng[0]? = some a := by
    have := S.pre
    cases Ng with
    | nil => cases this
    | cons b l => simpa using this
  obtain ⟨v0, s0, p0, ev0, ad0, rep0, vs, hT, okT, all⟩ : ∃ v0, σ[0]? = some (some v0) ∧ ∃ p, v0 = .ref p ∧ OwRep c G H p (ads 0) (.scrT ns) := by
    have sl := R.slot 0
    rw [e0] at sl
    cases q : σ[0]? with
    | none => rw [q] at sl; exact sl.elim
    | some o =>
      rw [q] at sl
      cases o with
      | none => exact sl.elim
      | some v => exact ⟨v, rfl, sl⟩
  have gT : G c.tab = none := (R.own 0 c.tab (by rw [ad0]; exact List.mem_singleton.mpr rfl)).1
  have hTK : TabK (fun y => G y = some (CodeO y c.lam)) H c.tab (X.env.qual ++ "<lambda>") := by
    rw [hl]
    exact ⟨vs, hT, okT, fun q w hw => by
      obtain ⟨y, e1, e2⟩ := all q w hw
      exact ⟨y, e1, e2, R.sub _ _ e2⟩⟩
  refine wpAny_Call_Name_kw (ld_glob J hg hm ?_ hdb)
  refine PySem.W.callWith_K (h₀ := X.base) J.ok.mod.kin F.kp ?_ (by rfl) (by rfl)
  show wpAny _ _ (spliced ((false, eval (.Lambda ar be scope lpos) X.env) :: backTo pos (starEach [] X.env))) _ _ s
  refine Calls.spliced_cons (lam_new J TB hk hTK hdef (L.cells J.ok) fun f k' pm ct H1 s1 J1 keep T1 hf hfn hfr hco dk => ?_)
  refine Calls.spliced_nil ⟨J1.kIn, ?_⟩
  rw [hl] at hco T1
  -- the code object is known from now on
  have nk : ∀ y u, G y = some u → y ≠ c.tab := fun y u e z => by rw [z, gT] at e; cases e
  have sG : Sub G (upd G k' (CodeO k' c.lam)) := fun y u e => by
    by_cases z : y = k'
    · subst z
      have := keep y u (nk y u e) (R.sub _ _ e)
      rw [hco] at this
      rw [upd_same]
      exact this
    · rw [upd_ne z]; exact e
  have sH : Sub (upd G k' (CodeO k' c.lam)) H1 := fun y u e => by
    by_cases z : y = k'
    · subst z
      rw [upd_same] at e
      rw [hco]; exact e
    · rw [upd_ne z] at e
      exact keep y u (nk y u e) (R.sub _ _ e)
  obtain ⟨vs1, hT1, okT1, all1⟩ := T1
  have st : Step [c.tab] H G H1 (upd G k' (CodeO k' c.lam)) := ⟨sG, sH, fun y u e => by
      by_cases z : y = k'
      · subst z
        rw [upd_same] at e
        rcases dk with d | d
        · exact .inl (by rw [d]; exact e)
        · exact .inr (.inl d)
      · rw [upd_ne z] at e; exact .inl e, fun y u hy e => keep y u (fun z => hy (by rw [z]; exact List.mem_singleton.mpr rfl)) e, fun y e => by
      cases q : H y with
      | none => rfl
      | some u =>
        by_cases z : y = c.tab
        · rw [z, hT1] at e; cases e
        · rw [keep y u z q] at e; cases e⟩
  have hB : ∀ y ∈ [c.tab], (∃ i, Vl.sl i ∈ [Vl.sl 0] ∧ y ∈ ads i) ∨ H y = none := fun y hy => .inl ⟨0, List.mem_singleton.mpr rfl, by rw [ad0]; exact hy⟩
  have pv : VReps c σ G [Vl.sl 0] [v0] := ⟨v0, [], rfl, s0, rfl⟩
  have R1 := R.call (as := [.ow (.scrT ns)]) pv st hB ⟨⟨p0, ev0, ad0, rep0.mono sG, vs1, hT1, okT1, fun q w hw => by
    obtain ⟨y, e1, e2, _⟩ := all1 q w hw
    refine ⟨y, e1, ?_⟩
    rcases e2 with z | z
    · exact sG _ _ z
    · rw [z]; exact upd_same⟩, trivial⟩
  have pe : putArgs [Vl.sl 0] [Arg.ow (.scrT ns)] env = env := by
    show env.set 0 (some (.ow (.scrT ns))) = env
    apply List.ext_getElem?
    intro i
    rw [List.getElem?_set]
    by_cases z : 0 = i
    · subst z
      rw [if_pos rfl, e0, if_pos (List.getElem?_eq_some_iff.mp e0).1]
    · rw [if_neg z]
  rw [pe] at R1
  have n1 : Nxt ads G H ads (upd G k' (CodeO k' c.lam)) H1 := R.callNxt st hB
  generalize hG1 : upd G k' (CodeO k' c.lam) = G1 at R1 n1
  have kG : G1 k' = some (CodeO k' c.lam) := by rw [← hG1]; exact upd_same
  obtain ⟨ba, bq, sI, adI, neI, bH1, bH2⟩ := box_slot R1 eI
  have inI : ∀ y ∈ [ba, bq], y ∈ ads i := fun y hy => by rw [adI]; exact hy
  have gI : ∀ y ∈ [ba, bq], G1 y = none := fun y hy => (R1.own i y (inI y hy)).1
  have kI : k' ∉ [ba, bq] := fun m => by rw [gI k' m] at kG; cases kG
  obtain ⟨oc, od, dV, kV, doc, pmv, an, cdv, ctv, osl, rfl, lk, hcd', _, _⟩ := F.ex
  have rc : codeAny (model X.prog X.w) X.A (.call (.ref g) ⟨[.ref f], []⟩) (CR (L2.CX X.prog X.w) X.stack X.prog X.w H1 s1 Q fun _ _ _ => False) s1 := by
    refine run_ofS (CX := L2.CX X.prog X.w) (N := Ng) (ps := [a]) (us := [.ref f]) (vs := [.ref f]) lk hcd' S hr.rm J1.env0 (hb s1 [.ref f] J1.kIn rfl) (.cons rfl .nil) rfl fun _ => ?_
    have hrZ : RoomG (kk + 1) (X.A.deeper (envOfC x sg s1.heap.objs.size g cdv)) := RoomG.deeper (k := kk + 1) hr _
    have fin : (toldEndB i env (B (rAskB i (hideE js env) ev) (some (.ow (.boxF great fs)) :: List.replicate (n - 1) none))).Sat (fun o env' => ∀ ads' G' H' v, RS c r ads' G' H' σ env' → Nxt ads G H ads' G' H' → ResNew c r ads' G' H H' o v → Q v H') (XC c r W G σ) →
        (∀ (pn : List (Addr × Obj)) (xe : Value → Shared → Prop) (W' : WX) (p1 p2 : Pos), Takes ((cxOf (L2.CX X.prog X.w) X.prog X.w X.K X.mg X.base Ng x sg g cdv X.A X.stack s1 H1 fun _ _ _ => False).tr pn xe) W' →
          PE ((cxOf (L2.CX X.prog X.w) X.prog X.w X.K X.mg X.base Ng x sg g cdv X.A X.stack s1 H1 fun _ _ _ => False).tr pn xe) (.Call (.Name a p1) [] [] p2) (TRof c ⟨H1, G1, [ba, bq], [(0, .ref f, [ba, bq])]⟩ W' (rAskB i (hideE js env) ev))) →
        ∃ t, PSs (cxOf (L2.CX X.prog X.w) X.prog X.w X.K X.mg X.base Ng x sg g cdv X.A X.stack s1 H1 fun _ _ _ => False) bg t ∧ t { nx := fun _ H' => Q .non H', rt := Q } (L2.start Ng [.ref f]) H1 := fun hw ask => by
      refine ⟨_, htold cdv s1 H1 (fun _ _ _ => False) ⟨H1, G1, [ba, bq], [(0, .ref f, [ba, bq])]⟩ _ hrZ rfl (takes_of rfl rfl rfl rfl) (passes_of rfl) ask, fun j => if j = 0 then [ba, bq] else [], G1, some (.ow (.boxF great fs)) :: List.replicate (n - 1) none, ?_, ?_⟩
      · refine ⟨Step.refl (R1.sub), ?_, fun j => ?_, fun j y hy => ?_, fun j l y hy hz => ?_, fun q hq => ?_⟩
        · have := congrArg List.length S.pre
          rw [List.length_take] at this
          simp only [List.length_singleton] at this
          unfold L2.start
          simp only [List.length_cons, List.length_replicate, List.length_append, List.length_map, List.length_nil]
          omega
        · cases j with
          | zero => exact ⟨f, rfl, ba, bq, rfl, neI, bH1, bH2⟩
          | succ j =>
            have : (some (Arg.ow (OS.boxF great fs)) :: List.replicate (n - 1) (none : Option Arg))[j + 1]?.join = none := by
              rw [List.getElem?_cons_succ, List.getElem?_replicate]
              split <;> rfl
            rw [this]
            exact rfl
        · by_cases z : j = 0
          · rw [if_pos z] at hy
            exact ⟨gI y hy, .inl ⟨by rw [z]; exact List.mem_singleton.mpr rfl, hy⟩⟩
          · rw [if_neg z] at hy; cases hy
        · by_cases z : j = 0
          · by_cases z2 : l = 0
            · rw [z, z2]
            · rw [if_neg z2] at hz; cases hz
          · rw [if_neg z] at hy; cases hy
        · rw [List.mem_singleton.mp hq]
          exact ⟨rfl, rfl⟩
      · cases q : B (rAskB i (hideE js env) ev) (some (.ow (.boxF great fs)) :: List.replicate (n - 1) none) with
        | rt o e =>
          rw [q] at hw
          cases o with
          | ow _ => exact hw.elim
          | t t =>
            unfold toldEndB at hw
            dsimp only at hw
            split at hw
            rotate_left
            · exact hw.elim
            rename_i g2 f2 eZ
            intro ads' G' H' σ' v RZ s' rr
            have adZ : ads' 0 = [ba, bq] := (RZ.pin (0, .ref f, [ba, bq]) List.mem_cons_self).2
            obtain ⟨x1, x2, y1, y2, y3, y4⟩ : ∃ a' q', ads' 0 = [a', q'] ∧ a' ≠ q' ∧ H' q' = some (.lst (g2.map V.int)) ∧ H' a' = some (.dK (bxK q' f2)) := by
              have sl := RZ.slot 0
              rw [eZ] at sl
              cases w : σ'[0]?.join with
              | none => rw [w] at sl; exact sl.elim
              | some v => rw [w] at sl; obtain ⟨_, _, a', q', h⟩ := sl; exact ⟨a', q', h⟩
            rw [adZ] at y1
            cases y1
            have R2 := R1.call (xs := [Vl.sl i]) (vs := [.ref ba]) (as := [.ow (.boxD g2 f2)]) ⟨.ref ba, [], rfl, sI, rfl⟩ RZ.step (fun y hy => .inl ⟨i, List.mem_singleton.mpr rfl, inI y hy⟩) ⟨⟨ba, rfl, bq, adI, neI, y3, y4⟩, trivial⟩
            exact hw ads G' H' v R2 (n1.trans (R1.callNxt (xs := [Vl.sl i]) RZ.step fun y hy => .inl ⟨i, List.mem_singleton.mpr rfl, inI y hy⟩)) rr
        | nx e => rw [q] at hw; exact hw.elim
        | bk e => rw [q] at hw; exact hw.elim
        | ct e => rw [q] at hw; exact hw.elim
        | exc y e => rw [q] at hw; exact hw.elim
        | bad => rw [q] at hw; exact hw.elim
    refine fin h fun pn xe W' p1 p2 tk => PE.imp (pe_ask (i := 0) (W := W') (js := js) (tb := fun E σ H Q => ∃ r' : Ref, r'.pins.map Prod.fst = [i] ∧ TEof c r' (fun cls d _ H' => E cls d H') ev σ H Q) J1 nd L hf hfn hfr (hbind _ _ _ _ _) tk hrZ
        (fun A l t HZ E hr2 => PE.ex fun r' hp => hbody A l t HZ E f k' r' hr2 hp (takes_of rfl rfl rfl rfl)) hN0 hva hd hcd) fun σZ HZ Q' hq => ?_
    obtain ⟨adsZ, GZ, envZ, RZ, hq⟩ := hq
    rw [hl]
    unfold rAskB at hq
    split at hq
    rotate_left
    · exact hq.elim
    rename_i gr2 fs2 eZ
    have pinZ := RZ.pin (0, .ref f, [ba, bq]) List.mem_cons_self
    obtain ⟨z1, z2⟩ : HZ bq = some (.lst (gr2.map V.int)) ∧ HZ ba = some (.dK (bxK bq fs2)) := by
      have sl := RZ.slot 0
      rw [eZ] at sl
      cases w : σZ[0]?.join with
      | none => rw [w] at sl; exact sl.elim
      | some v =>
        rw [w, pinZ.2] at sl
        obtain ⟨_, _, a', q', y1, _, y3, y4⟩ := sl
        cases y1
        exact ⟨y3, y4⟩
    have inZ : ∀ y ∈ [ba, bq], y ∈ adsZ 0 := fun y hy => by rw [pinZ.2]; exact hy
    have hB2 : ∀ y ∈ [ba, bq], (∃ i, Vl.sl i ∈ [Vl.sl 0] ∧ y ∈ adsZ i) ∨ HZ y = none := fun y hy => .inl ⟨0, List.mem_singleton.mpr rfl, inZ y hy⟩
    have gZ : ∀ y ∈ [ba, bq], GZ y = none := fun y hy => (RZ.own 0 y (inZ y hy)).1
    have li : i < env.length := (List.getElem?_eq_some_iff.mp eI).1
    refine ⟨pinZ.1, RZ.step.keep k' _ kI hco, ⟨HZ, GZ, [ba, bq], [(i, .ref ba, [ba, bq])]⟩, rfl, fun j => if j = i then [ba, bq] else [], GZ, (hideE js env).set i (some (.ow (.boxD gr2 fs2))), RS.hiddenB hij R1 RZ.step.sub RZ.step.sub1 sI li neI z1 z2 gZ, ?_⟩
    have back : ∀ {ads2 : Nat → List Addr} {G' H' : Hp} {e : En} {g3 : List Int} {f3 : List (Str × Int)}, RS c ⟨HZ, GZ, [ba, bq], [(i, .ref ba, [ba, bq])]⟩ ads2 G' H' (L2.wipe σ js) e → e[i]? = some (some (.ow (.boxD g3 f3))) →
        RS c ⟨H1, G1, [ba, bq], [(0, .ref f, [ba, bq])]⟩ adsZ G' H' σZ (envZ.set 0 (some (.ow (.boxF g3 f3)))) ∧ Nxt adsZ GZ HZ adsZ G' H' := fun {ads2 G' H' e g3 f3} R' eI' => by
      obtain ⟨b1, b2, _, ad2, ne2, w1, w2⟩ := box_slot R' eI'
      rw [(R'.pin (i, .ref ba, [ba, bq]) List.mem_cons_self).2] at ad2
      cases ad2
      exact ⟨RZ.call (xs := [Vl.sl 0]) (vs := [.ref f]) (as := [.ow (.boxF g3 f3)]) ⟨.ref f, [], rfl, pinZ.1, rfl⟩ R'.step hB2 ⟨⟨f, rfl, ba, bq, pinZ.2, ne2, w1, w2⟩, trivial⟩, RZ.callNxt (xs := [Vl.sl 0]) R'.step hB2⟩
    cases hev : ev ((hideE js env).set i (some (.ow (.boxD gr2 fs2)))) with
    | bad => simp only [hev] at hq; exact hq.elim
    | ok y e =>
      simp only [hev] at hq
      split at hq
      rotate_left
      · exact hq.elim
      rename_i t g3 f3 ht eI'
      intro ads2 G' H' v R' _ vr
      obtain ⟨b1, b2⟩ := back R' eI'
      refine hq adsZ G' H' v b1 b2 ?_
      cases y with
      | tr u => cases ht; exact vr
      | sl l =>
        simp only [treeOf] at ht
        have z := R'.slot l
        rw [show (L2.wipe σ js)[l]? = some (some v) from vr] at z
        split at ht
        · rename_i u q
          cases ht
          rw [q] at z
          exact z.2
        · cases ht
    | exc y e =>
      simp only [hev] at hq
      split at hq
      rotate_left
      · exact hq.elim
      rename_i g3 f3 eI'
      intro ads2 G' H' cls d R' s' rx
      obtain ⟨b1, b2⟩ := back R' eI'
      exact hq adsZ G' H' cls d b1 b2.sub rx
  refine wpAny_call (codeAny_mono rc fun z s2 hq => ?_)
  match z, hq with
  | .error e, hq =>
    obtain ⟨_, _, _, _, _, _, _, _, _, _, _, _, bad⟩ := hq
    exact bad.elim
  | .ok (.ret u), hq => exact J1.after hq
  | .ok .next, hq => exact hq.elim
  | .ok .brk, hq => exact hq.elim
  | .ok .cont, hq => exact hq.elim
end

end TreeL
end
section
namespace Lk54
open PySem PySem.Spec PyProof.Rows L2 TreeL
def top (i : Nat) : Stmt := PySem.Challenge.pw_stepsback_k54_tasks_refused.main.body.getD i (.Pass ⟨0, 0, 0, 0⟩)
def cs : List PySem.Str := ["Row", "First", "Mode", "Turn", "Lead", "House", "Weaving", "Plan", "Single", "Played", "Course", "Entry", "Ways", "Paths", "Task", "Tasks", "Trial", "Room", "Desk", "StepError", "InvalidRow", "InvalidPlan", "InvalidText", "InvalidEvent", "InvalidTask", "Refused", "InvalidGoal", "InvalidCommand", "Mismatch", "NoRow", "NoEvent", "NoName"]
abbrev hks : List Nat := [14, 15]
def dd__law_feed : He5.DefA := ⟨fun K => He.ga K "_law_feed", "_law_feed", "_law_feed", defArgs (top 19), defBody (top 19), defScope (top 19), [], []⟩
def dd_is_sequence : He5.DefA := ⟨fun K => He.ga K "is_sequence", "is_sequence", "is_sequence", defArgs (top 10), defBody (top 10), defScope (top 10), [], []⟩
def dd_is_need : He5.DefA := ⟨fun K => He.ga K "is_need", "is_need", "is_need", defArgs (top 15), defBody (top 15), defScope (top 15), [], []⟩
def dd_joined_with : He5.DefA := ⟨fun K => He.ga K "joined_with", "joined_with", "joined_with", defArgs (top 12), defBody (top 12), defScope (top 12), [], []⟩
def dd_closed : He5.DefA := ⟨fun K => He.ga K "closed", "closed", "closed", defArgs (top 13), defBody (top 13), defScope (top 13), [], []⟩
def dd_has_ring : He5.DefA := ⟨fun K => He.ga K "has_ring", "has_ring", "has_ring", defArgs (top 14), defBody (top 14), defScope (top 14), [], []⟩
def dd_Tasks___init__ : He5.DefA := ⟨fun K => He.ma K (He.ga K "Tasks") "__init__", "__init__", "Tasks.__init__", defArgs (inClass (top 17) 0), defBody (inClass (top 17) 0), defScope (inClass (top 17) 0), [.adr (He.dflAt ("Tasks", some "__init__") 0)], []⟩
def dd__law_take : He5.DefA := ⟨fun K => He.ga K "_law_take", "_law_take", "_law_take", defArgs (top 20), defBody (top 20), defScope (top 20), [], []⟩
def dd__law_pick : He5.DefA := ⟨fun K => He.ga K "_law_pick", "_law_pick", "_law_pick", defArgs (top 21), defBody (top 21), defScope (top 21), [], []⟩
def dd__law_word : He5.DefA := ⟨fun K => He.ga K "_law_word", "_law_word", "_law_word", defArgs (top 24), defBody (top 24), defScope (top 24), [], []⟩
def dd_is_name : He5.DefA := ⟨fun K => He.ga K "is_name", "is_name", "is_name", defArgs (top 9), defBody (top 9), defScope (top 9), [], []⟩
def dd_Task___init__ : He5.DefA := ⟨fun K => He.ma K (He.ga K "Task") "__init__", "__init__", "Task.__init__", defArgs (inClass (top 16) 0), defBody (inClass (top 16) 0), defScope (inClass (top 16) 0), [.bl true, .bl false], []⟩
def dd__law_is_name : He5.DefA := ⟨fun K => He.ga K "_law_is_name", "_law_is_name", "_law_is_name", defArgs (top 26), defBody (top 26), defScope (top 26), [], []⟩
def dd__law_is_bool : He5.DefA := ⟨fun K => He.ga K "_law_is_bool", "_law_is_bool", "_law_is_bool", defArgs (top 25), defBody (top 25), defScope (top 25), [], []⟩
def dd__law_task_due : He5.DefA := ⟨fun K => He.ga K "_law_task_due", "_law_task_due", "_law_task_due", defArgs (top 27), defBody (top 27), defScope (top 27), [], []⟩
def dd__law_mixed : He5.DefA := ⟨fun K => He.ga K "_law_mixed", "_law_mixed", "_law_mixed", defArgs (top 22), defBody (top 22), defScope (top 22), [], []⟩
def dd__law_some_tasks : He5.DefA := ⟨fun K => He.ga K "_law_some_tasks", "_law_some_tasks", "_law_some_tasks", defArgs (top 23), defBody (top 23), defScope (top 23), [], []⟩
def dd_law : He5.DefA := ⟨fun K => He.ga K "law", "law", "law", defArgs (top 28), defBody (top 28), defScope (top 28), [], []⟩
def fn : List He5.DefA := [dd__law_feed, dd_is_sequence, dd_is_need, dd_joined_with, dd_closed, dd_has_ring, dd_Tasks___init__, dd__law_take, dd__law_pick, dd__law_word, dd_is_name, dd_Task___init__, dd__law_is_name, dd__law_is_bool, dd__law_task_due, dd__law_mixed, dd__law_some_tasks, dd_law]
def fs : List (PySem.W.Frag → Bool) := [(He.Fa.free "len").ok,
  (He.Fa.free "min").ok,
  (He.Fa.free "max").ok,
  (He.Fa.free "range").ok,
  (He.Fa.free "int").ok,
  (He.Fa.free "abs").ok,
  (He.Fa.glo "_law_feed").ok,
  isiB cs hks [.lst, .tup] [.ty "list", .ty "tuple"],
  (He.Fa.free "tuple").ok,
  (He.Fa.free "list").ok,
  isicB "Task",
  isicB "Tasks",
  (He.Fa.free "isinstance").ok,
  (He.Fa.glo "is_sequence").ok,
  isiB cs hks [.ins 14] [.own 14],
  (He.Fa.glo "Task").ok,
  (He.Fa.free "all").ok,
  fun K => xcB1 XB.value "word" (He.ga K "InvalidTask") K,
  fun K => xcB2 "word" PySem.Challenge.pw_stepsback_k54_tasks_refused.main.file (He.ga K "InvalidTask") K,
  fun K => xcB3 XB.value "word" (He.ga K "InvalidTask") K,
  fun K => xcB4 "word" (He.ga K "InvalidTask") K,
  fun K => xcB5 (He.ga K "InvalidTask") K,
  (He.Fa.glo "InvalidTask").ok,
  (He.Fa.cls "Task").ok,
  (He.Fa.noat "Task" "name").ok,
  (He.Fa.free "set").ok,
  isiB cs hks [.tup] [.ty "tuple"],
  isiB cs hks [.str] [.ty "str"],
  (He.Fa.free "str").ok,
  (He.Fa.glo "is_need").ok,
  (He.Fa.glo "joined_with").ok,
  (He.Fa.glo "closed").ok,
  (He.Fa.free "any").ok,
  (He.Fa.glo "has_ring").ok,
  (He.Fa.cls "Tasks").ok,
  (He.Fa.noat "Tasks" "tasks").ok,
  (He.Fa.noat "Tasks" "needs").ok,
  (He.Fa.mkr "Tasks").ok,
  (He.Fa.glo "Tasks").ok,
  (He.Fa.glo "_law_take").ok,
  (He.Fa.glo "_law_pick").ok,
  (He.Fa.glo "StepError").ok,
  xiB cs [24],
  kitB cs [24] [24] (.own 19),
  (He.Fa.glo "InvalidRow").ok,
  kitB cs [24] [] (.own 20),
  xfaB cs [24] "word",
  exmB cs [24] [24] 24,
  (He.Fa.glo "BARRED").ok,
  fun K => He.tupB K "BARRED" ((["and", "any", "do", "if", "none", "not", "same", "send", "then", "time", "to", "wipe", "work"] : List PySem.Str).map He.Dv.str),
  (He.Fa.str "SMALL" "abcdefghijklmnopqrstuvwxyz").ok,
  (He.Fa.glo "is_name").ok,
  isiB cs hks [.bl] [.ty "bool"],
  (He.Fa.free "bool").ok,
  (He.Fa.noat "Task" "back").ok,
  (He.Fa.noat "Task" "sure").ok,
  (He.Fa.mkr "Task").ok,
  (He.Fa.glo "_law_word").ok,
  (He.Fa.glo "_law_is_name").ok,
  (He.Fa.glo "_law_is_bool").ok,
  (He.Fa.glo "_law_task_due").ok,
  (He.Fa.glo "_law_mixed").ok,
  (He.Fa.glo "_law_some_tasks").ok,
  nilAt (He.dflAt ("Tasks", some "__init__") 0),
  (He.Fa.glo "law").ok,
  fun K => codeB (tabOf K) K]
abbrev R : PySem.W.OpenRow := PySem.W.OpenLaw.row PySem.Challenge.rw_stepsback_k54_tasks_refused
def nm0 : List PySem.Str := ["_wall", "StepError", "InvalidRow", "InvalidTask", "NoName", "SMALL", "BARRED", "is_name", "is_sequence", "joined_with", "closed", "has_ring", "is_need", "Task", "Tasks", "_law_feed", "_law_take", "_law_pick", "_law_mixed", "_law_some_tasks", "_law_word", "_law_is_bool", "_law_is_name", "_law_task_due"]
def nms : List PySem.Str := nm0
abbrev qv : PySem.Program := PySem.W.view R.prog [28]
noncomputable section
open PySem.W
def sEnv : Env := { scope := R.prog.main.scope, locals := mainNs, globals := mainNs, cells := [], code := (.ref 13), frame := some 14 }
def T0 (P : Params) : BT := (.node (boot_o_0 P) (.node (boot_o_1 P) (.node (boot_o_3 P) (.node (boot_o_7 P) .nil .nil) .nil) (.node (boot_o_5 P) (.node (boot_o_9 P) .nil .nil) .nil)) (.node (boot_o_2 P) (.node (boot_o_4 P) (.node (boot_o_8 P) .nil .nil) .nil) (.node (boot_o_6 P) (.node (boot_o_10 P) .nil .nil) .nil)))
def S0 (w : World) (os : OsState) : SharedT := HandSHeadRun.bootT w os (T0 w.params, 11)
def o11_1 : Obj := ⟨(.type "tuple"), .none, (.seq #[] 0), #[]⟩
def o12_1 : Obj := ⟨.none, .none, (.fields #[]), #[]⟩
def o13_1 : Obj := ⟨(.type "code"), .none, (.fields #[(.str "<module>" 182), (.str "<module>" 183), (.str "/claim/cut.py" 184), (.int 1 0), (.int 0 0), (.int 0 0), (.int 0 0), (.int 0 0), (.ref 11), (.bool .false), (.int 181 0), (.ref 12), .none, .none, .none, .none, (.int 185 0), (.int 1 0), (.str "/claim/cut.py" 186)]), #[]⟩
def o14_1 : Obj := ⟨(.type "frame"), .none, .plain, #[(.some (.ref 13)), (.some (.ref 3)), (.some (.ref 3)), .none, (.some (.str "__main__" 164)), .none, (.some (.ref 0))]⟩
def T1 (P : Params) : BT := (.node (boot_o_0 P) (.node (boot_o_1 P) (.node (boot_o_3 P) (.node (boot_o_7 P) .nil .nil) (.node o11_1 .nil .nil)) (.node (boot_o_5 P) (.node (boot_o_9 P) .nil .nil) (.node o13_1 .nil .nil))) (.node (boot_o_2 P) (.node (boot_o_4 P) (.node (boot_o_8 P) .nil .nil) (.node o12_1 .nil .nil)) (.node (boot_o_6 P) (.node (boot_o_10 P) .nil .nil) (.node o14_1 .nil .nil))))
def S1 (w : World) (os : OsState) : SharedT := ⟨T1 w.params, 15, ⟨[], [], [], 0, [], [], .false, #[], [], 0, .false, .false, .false, 0, [2000, 10, 10], .false, 0, .true, [], [], 0, .false⟩, #[], ⟨0, 0, 0, 0⟩, 187, os⟩
def T2 (P : Params) : BT := (.node (boot_o_0 P) (.node (boot_o_1 P) (.node (boot_o_3 P) (.node (boot_o_7 P) .nil .nil) (.node o11_1 .nil .nil)) (.node (boot_o_5 P) (.node (boot_o_9 P) .nil .nil) (.node o13_1 .nil .nil))) (.node (boot_o_2 P) (.node (boot_o_4 P) (.node (boot_o_8 P) .nil .nil) (.node o12_1 .nil .nil)) (.node (boot_o_6 P) (.node (boot_o_10 P) .nil .nil) (.node o14_1 .nil .nil))))
def S2 (w : World) (os : OsState) : SharedT := ⟨T2 w.params, 15, ⟨[], [], [], 0, [], [], .false, #[], [], 0, .false, .false, .false, 0, [2000, 10, 10], .false, 0, .true, [], [], 0, .false⟩, #[], ⟨0, 0, 0, 0⟩, 187, os⟩
def o2_3 (P : Params) : Obj := ⟨.none, .none, (.dict #[⟨(PySem.PyData.keyHash P "type.__subclasses__.KeyError.0"), (.str "type.__subclasses__.KeyError.0" 295), (.int 95 0)⟩, ⟨(PySem.PyData.keyHash P "type.__subclasses__.KeyError.n"), (.str "type.__subclasses__.KeyError.n" 296), (.int 1 0)⟩] 2), #[]⟩
def o3_3 (P : Params) : Obj := ⟨(.type "dict"), .none, (.dict #[⟨(PySem.PyData.keyHash P "__name__"), (.str "__name__" 165), (.str "stepsback.tasks" 330)⟩, ⟨(PySem.PyData.keyHash P "__doc__"), (.str "__doc__" 166), .none⟩, ⟨(PySem.PyData.keyHash P "__package__"), (.str "__package__" 167), .none⟩, ⟨(PySem.PyData.keyHash P "__loader__"), (.str "__loader__" 168), (.builtin "__main__.__loader__#opaque")⟩, ⟨(PySem.PyData.keyHash P "__spec__"), (.str "__spec__" 169), .none⟩, ⟨(PySem.PyData.keyHash P "__annotations__"), (.str "__annotations__" 170), (.ref 6)⟩, ⟨(PySem.PyData.keyHash P "__builtins__"), (.str "__builtins__" 171), (.ref 4)⟩, ⟨(PySem.PyData.keyHash P "__file__"), (.str "__file__" 173), (.str "/claim/cut.py" 172)⟩, ⟨(PySem.PyData.keyHash P "__cached__"), (.str "__cached__" 174), .none⟩, ⟨(PySem.PyData.keyHash P "_wall"), (.str "_wall" 193), (.ref 21)⟩, ⟨(PySem.PyData.keyHash P "StepError"), (.str "StepError" 213), (.ref 31)⟩, ⟨(PySem.PyData.keyHash P "InvalidRow"), (.str "InvalidRow" 240), (.ref 53)⟩, ⟨(PySem.PyData.keyHash P "InvalidTask"), (.str "InvalidTask" 267), (.ref 74)⟩, ⟨(PySem.PyData.keyHash P "NoName"), (.str "NoName" 298), (.ref 95)⟩, ⟨(PySem.PyData.keyHash P "SMALL"), (.str "SMALL" 302), (.str "abcdefghijklmnopqrstuvwxyz" 301)⟩, ⟨(PySem.PyData.keyHash P "BARRED"), (.str "BARRED" 316), (.ref 99)⟩, ⟨(PySem.PyData.keyHash P "is_name"), (.str "is_name" 322), (.ref 104)⟩, ⟨(PySem.PyData.keyHash P "is_sequence"), (.str "is_sequence" 329), (.ref 111)⟩, ⟨(PySem.PyData.keyHash P "joined_with"), (.str "joined_with" 337), (.ref 116)⟩, ⟨(PySem.PyData.keyHash P "closed"), (.str "closed" 350), (.ref 123)⟩, ⟨(PySem.PyData.keyHash P "has_ring"), (.str "has_ring" 356), (.ref 128)⟩, ⟨(PySem.PyData.keyHash P "is_need"), (.str "is_need" 362), (.ref 133)⟩, ⟨(PySem.PyData.keyHash P "Task"), (.str "Task" 404), (.ref 158)⟩, ⟨(PySem.PyData.keyHash P "Tasks"), (.str "Tasks" 530), (.ref 270)⟩] 24), #[]⟩
def o12_3 : Obj := ⟨.none, .none, (.fields #[(.int 1 0), (.int 0 0), (.ref 20), (.int 5 0), (.int 0 0), (.ref 27), (.int 7 0), (.int 0 0), (.ref 41), (.int 12 0), (.int 0 0), (.ref 62), (.int 17 0), (.int 0 0), (.ref 83), (.int 25 0), (.int 0 0), (.ref 103), (.int 29 0), (.int 0 0), (.ref 110), (.int 32 0), (.int 0 0), (.ref 115), (.int 35 0), (.int 0 0), (.ref 122), (.int 49 0), (.int 0 0), (.ref 127), (.int 51 0), (.int 0 0), (.ref 132), (.int 55 0), (.int 0 0), (.ref 139), (.int 72 0), (.int 0 0), (.ref 168)]), #[]⟩
def o17_3 : Obj := ⟨(.type "tuple"), .none, (.seq #[(.str "k" 190)] 0), #[]⟩
def o19_3 : Obj := ⟨.none, .none, (.func ⟨"_wall", "_wall", (defArgs (top 0)), (.stmts (defBody (top 0))), (defScope (top 0)), 0, [], .none, .none, .none, .none, .none, .none, .none, 0⟩), #[]⟩
def o20_3 : Obj := ⟨(.type "code"), .none, (.fields #[(.str "_wall" 187), (.str "_wall" 188), (.str "/claim/cut.py" 189), (.int 1 0), (.int 1 0), (.int 0 0), (.int 0 0), (.int 3 0), (.ref 15), (.bool .true), (.int 181 0), (.ref 16), .none, (.ref 17), (.ref 18), (.ref 19), (.int 191 0), (.int 1 0), (.str "/claim/cut.py" 192)]), #[]⟩
def o21_3 : Obj := ⟨(.type "function"), .none, (.func ⟨"_wall", "_wall", (defArgs (top 0)), (.stmts (defBody (top 0))), (defScope (top 0)), 3, [], .none, .none, .none, (.str "__main__" 164), .none, (.ref 20), .none, 0⟩), #[]⟩
def o22_3 : Obj := ⟨(.type "tuple"), .none, (.seq #[(.type "ValueError")] 0), #[]⟩
def o23_3 : Obj := ⟨(.type "builtin_function_or_method"), .none, (.fields #[(.builtin "type.__prepare__"), (.type "type")]), #[]⟩
def o24_3 (P : Params) : Obj := ⟨(.type "dict"), .none, (.dict #[⟨(PySem.PyData.keyHash P "__module__"), (.str "__module__" 203), (.str "stepsback.errors" 194)⟩, ⟨(PySem.PyData.keyHash P "__qualname__"), (.str "__qualname__" 205), (.str "StepError" 204)⟩, ⟨(PySem.PyData.keyHash P "__firstlineno__"), (.str "__firstlineno__" 207), (.int 5 206)⟩, ⟨(PySem.PyData.keyHash P "__static_attributes__"), (.str "__static_attributes__" 208), (.ref 29)⟩] 4), #[]⟩
def o27_3 : Obj := ⟨(.type "code"), .none, (.fields #[(.str "StepError" 198), (.str "StepError" 199), (.str "/claim/cut.py" 200), (.int 5 0), (.int 0 0), (.int 0 0), (.int 0 0), (.int 0 0), (.ref 25), (.bool .false), (.int 181 0), (.ref 26), .none, .none, .none, .none, (.int 201 0), (.int 5 0), (.str "/claim/cut.py" 202)]), #[]⟩
def o28_3 : Obj := ⟨(.type "frame"), .none, .plain, #[(.some (.ref 27)), (.some (.ref 3)), (.some (.ref 24)), .none, (.some (.str "stepsback.errors" 194)), .none, (.some (.ref 0))]⟩
def o30_3 (P : Params) : Obj := ⟨(.type "dict"), .none, (.dict #[⟨(PySem.PyData.keyHash P "__module__"), (.str "__module__" 203), (.str "stepsback.errors" 194)⟩, ⟨(PySem.PyData.keyHash P "__firstlineno__"), (.str "__firstlineno__" 207), (.int 5 206)⟩, ⟨(PySem.PyData.keyHash P "__static_attributes__"), (.str "__static_attributes__" 208), (.ref 29)⟩, ⟨(PySem.PyData.keyHash P "__weakref__"), (.str "__weakref__" 210), (.ref 32)⟩, ⟨(PySem.PyData.keyHash P "__doc__"), (.str "__doc__" 211), .none⟩] 3), #[]⟩
def o31_3 : Obj := ⟨(.type "type"), .none, (.cls ⟨"StepError", [(.type "ValueError")], [(.ref 31), (.type "ValueError"), (.type "Exception"), (.type "BaseException"), (.type "object")], 30, "StepError", .true, [], [(.ref 53), (.ref 74)], .false, .none, .false⟩), #[(.some (.ref 22)), .none, (.some (.str "StepError" 196)), (.some (.str "StepError" 204)), (.some (.builtin "ValueError.__new__")), (.some (.bool .true))]⟩
def o32_3 : Obj := ⟨(.type "getset_descriptor"), .none, (.fields #[(.str "__weakref__" 209), (.ref 31), (.builtin "ExceptionGroup.__weakref__"), .none]), #[]⟩
def o33_3 : Obj := ⟨(.type "super"), .none, (.fields #[(.ref 31), (.ref 31), (.ref 31)]), #[]⟩
def o34_3 : Obj := ⟨(.type "builtin_function_or_method"), .none, (.fields #[(.builtin "object.__init_subclass__"), (.ref 31)]), #[]⟩
def o35_3 : Obj := ⟨(.type "tuple"), .none, (.seq #[(.ref 31)] 0), #[]⟩
def o37_3 (P : Params) : Obj := ⟨(.type "dict"), .none, (.dict #[⟨(PySem.PyData.keyHash P "__module__"), (.str "__module__" 221), (.str "stepsback.errors" 194)⟩, ⟨(PySem.PyData.keyHash P "__qualname__"), (.str "__qualname__" 223), (.str "InvalidRow" 222)⟩, ⟨(PySem.PyData.keyHash P "__firstlineno__"), (.str "__firstlineno__" 225), (.int 7 224)⟩, ⟨(PySem.PyData.keyHash P "__init__"), (.str "__init__" 234), (.ref 50)⟩, ⟨(PySem.PyData.keyHash P "__static_attributes__"), (.str "__static_attributes__" 236), (.ref 51)⟩, ⟨(PySem.PyData.keyHash P "__classcell__"), (.str "__classcell__" 237), (.ref 38)⟩] 6), #[]⟩
def o38_3 : Obj := ⟨(.type "cell"), .none, (.cell (.some (.ref 53))), #[]⟩
def o40_3 : Obj := ⟨.none, .none, (.fields #[(.int 9 0), (.int 4 0), (.ref 49)]), #[]⟩
def o41_3 : Obj := ⟨(.type "code"), .none, (.fields #[(.str "InvalidRow" 216), (.str "InvalidRow" 217), (.str "/claim/cut.py" 218), (.int 7 0), (.int 0 0), (.int 0 0), (.int 0 0), (.int 0 0), (.ref 39), (.bool .false), (.int 181 0), (.ref 40), .none, .none, .none, .none, (.int 219 0), (.int 7 0), (.str "/claim/cut.py" 220)]), #[]⟩
def o42_3 : Obj := ⟨(.type "frame"), .none, .plain, #[(.some (.ref 41)), (.some (.ref 3)), (.some (.ref 37)), .none, (.some (.str "stepsback.errors" 194)), .none, (.some (.ref 0))]⟩
def o43_3 : Obj := ⟨(.type "tuple"), .none, (.seq #[(.ref 38)] 0), #[]⟩
def o44_3 : Obj := ⟨(.type "tuple"), .none, (.seq #[(.str "__class__" 229)] 0), #[]⟩
def o46_3 : Obj := ⟨(.type "tuple"), .none, (.seq #[(.str "self" 230), (.str "word" 231)] 0), #[]⟩
def o48_3 : Obj := ⟨.none, .none, (.func ⟨"__init__", "InvalidRow.__init__", (defArgs (inClass (top 3) 0)), (.stmts (defBody (inClass (top 3) 0))), (defScope (inClass (top 4) 0)), 0, [], .none, .none, .none, .none, .none, .none, .none, 0⟩), #[]⟩
def o49_3 : Obj := ⟨(.type "code"), .none, (.fields #[(.str "__init__" 226), (.str "InvalidRow.__init__" 227), (.str "/claim/cut.py" 228), (.int 9 0), (.int 2 0), (.int 0 0), (.int 0 0), (.int 3 0), (.ref 44), (.bool .true), (.int 181 0), (.ref 45), .none, (.ref 46), (.ref 47), (.ref 48), (.int 232 0), (.int 9 0), (.str "/claim/cut.py" 233)]), #[]⟩
def o50_3 : Obj := ⟨(.type "function"), .none, (.func ⟨"__init__", "InvalidRow.__init__", (defArgs (inClass (top 3) 0)), (.stmts (defBody (inClass (top 3) 0))), (defScope (inClass (top 4) 0)), 3, [("__class__", 38)], .none, .none, .none, (.str "stepsback.errors" 194), .none, (.ref 49), (.ref 43), 0⟩), #[]⟩
def o51_3 : Obj := ⟨(.type "tuple"), .none, (.seq #[(.str "word" 235)] 0), #[]⟩
def o52_3 (P : Params) : Obj := ⟨(.type "dict"), .none, (.dict #[⟨(PySem.PyData.keyHash P "__module__"), (.str "__module__" 221), (.str "stepsback.errors" 194)⟩, ⟨(PySem.PyData.keyHash P "__firstlineno__"), (.str "__firstlineno__" 225), (.int 7 224)⟩, ⟨(PySem.PyData.keyHash P "__init__"), (.str "__init__" 234), (.ref 50)⟩, ⟨(PySem.PyData.keyHash P "__static_attributes__"), (.str "__static_attributes__" 236), (.ref 51)⟩, ⟨(PySem.PyData.keyHash P "__doc__"), (.str "__doc__" 238), .none⟩] 3), #[]⟩
def o53_3 : Obj := ⟨(.type "type"), .none, (.cls ⟨"InvalidRow", [(.ref 31)], [(.ref 53), (.ref 31), (.type "ValueError"), (.type "Exception"), (.type "BaseException"), (.type "object")], 52, "InvalidRow", .true, [], [], .false, .none, .false⟩), #[(.some (.ref 35)), .none, (.some (.str "InvalidRow" 214)), (.some (.str "InvalidRow" 222)), (.some (.builtin "ValueError.__new__")), (.some (.bool .true))]⟩
def o54_3 : Obj := ⟨(.type "super"), .none, (.fields #[(.ref 53), (.ref 53), (.ref 53)]), #[]⟩
def o55_3 : Obj := ⟨(.type "builtin_function_or_method"), .none, (.fields #[(.builtin "object.__init_subclass__"), (.ref 53)]), #[]⟩
def o58_3 (P : Params) : Obj := ⟨(.type "dict"), .none, (.dict #[⟨(PySem.PyData.keyHash P "__module__"), (.str "__module__" 248), (.str "stepsback.errors" 194)⟩, ⟨(PySem.PyData.keyHash P "__qualname__"), (.str "__qualname__" 250), (.str "InvalidTask" 249)⟩, ⟨(PySem.PyData.keyHash P "__firstlineno__"), (.str "__firstlineno__" 252), (.int 12 251)⟩, ⟨(PySem.PyData.keyHash P "__init__"), (.str "__init__" 261), (.ref 71)⟩, ⟨(PySem.PyData.keyHash P "__static_attributes__"), (.str "__static_attributes__" 263), (.ref 72)⟩, ⟨(PySem.PyData.keyHash P "__classcell__"), (.str "__classcell__" 264), (.ref 59)⟩] 6), #[]⟩
def o59_3 : Obj := ⟨(.type "cell"), .none, (.cell (.some (.ref 74))), #[]⟩
def o61_3 : Obj := ⟨.none, .none, (.fields #[(.int 14 0), (.int 4 0), (.ref 70)]), #[]⟩
def o62_3 : Obj := ⟨(.type "code"), .none, (.fields #[(.str "InvalidTask" 243), (.str "InvalidTask" 244), (.str "/claim/cut.py" 245), (.int 12 0), (.int 0 0), (.int 0 0), (.int 0 0), (.int 0 0), (.ref 60), (.bool .false), (.int 181 0), (.ref 61), .none, .none, .none, .none, (.int 246 0), (.int 12 0), (.str "/claim/cut.py" 247)]), #[]⟩
def o63_3 : Obj := ⟨(.type "frame"), .none, .plain, #[(.some (.ref 62)), (.some (.ref 3)), (.some (.ref 58)), .none, (.some (.str "stepsback.errors" 194)), .none, (.some (.ref 0))]⟩
def o64_3 : Obj := ⟨(.type "tuple"), .none, (.seq #[(.ref 59)] 0), #[]⟩
def o65_3 : Obj := ⟨(.type "tuple"), .none, (.seq #[(.str "__class__" 256)] 0), #[]⟩
def o67_3 : Obj := ⟨(.type "tuple"), .none, (.seq #[(.str "self" 257), (.str "word" 258)] 0), #[]⟩
def o69_3 : Obj := ⟨.none, .none, (.func ⟨"__init__", "InvalidTask.__init__", (defArgs (inClass (top 4) 0)), (.stmts (defBody (inClass (top 4) 0))), (defScope (inClass (top 4) 0)), 0, [], .none, .none, .none, .none, .none, .none, .none, 0⟩), #[]⟩
def o70_3 : Obj := ⟨(.type "code"), .none, (.fields #[(.str "__init__" 253), (.str "InvalidTask.__init__" 254), (.str "/claim/cut.py" 255), (.int 14 0), (.int 2 0), (.int 0 0), (.int 0 0), (.int 3 0), (.ref 65), (.bool .true), (.int 181 0), (.ref 66), .none, (.ref 67), (.ref 68), (.ref 69), (.int 259 0), (.int 14 0), (.str "/claim/cut.py" 260)]), #[]⟩
def o71_3 : Obj := ⟨(.type "function"), .none, (.func ⟨"__init__", "InvalidTask.__init__", (defArgs (inClass (top 4) 0)), (.stmts (defBody (inClass (top 4) 0))), (defScope (inClass (top 4) 0)), 3, [("__class__", 59)], .none, .none, .none, (.str "stepsback.errors" 194), .none, (.ref 70), (.ref 64), 0⟩), #[]⟩
def o72_3 : Obj := ⟨(.type "tuple"), .none, (.seq #[(.str "word" 262)] 0), #[]⟩
def o73_3 (P : Params) : Obj := ⟨(.type "dict"), .none, (.dict #[⟨(PySem.PyData.keyHash P "__module__"), (.str "__module__" 248), (.str "stepsback.errors" 194)⟩, ⟨(PySem.PyData.keyHash P "__firstlineno__"), (.str "__firstlineno__" 252), (.int 12 251)⟩, ⟨(PySem.PyData.keyHash P "__init__"), (.str "__init__" 261), (.ref 71)⟩, ⟨(PySem.PyData.keyHash P "__static_attributes__"), (.str "__static_attributes__" 263), (.ref 72)⟩, ⟨(PySem.PyData.keyHash P "__doc__"), (.str "__doc__" 265), .none⟩] 3), #[]⟩
def o74_3 : Obj := ⟨(.type "type"), .none, (.cls ⟨"InvalidTask", [(.ref 31)], [(.ref 74), (.ref 31), (.type "ValueError"), (.type "Exception"), (.type "BaseException"), (.type "object")], 73, "InvalidTask", .true, [], [], .false, .none, .false⟩), #[(.some (.ref 56)), .none, (.some (.str "InvalidTask" 241)), (.some (.str "InvalidTask" 249)), (.some (.builtin "ValueError.__new__")), (.some (.bool .true))]⟩
def o75_3 : Obj := ⟨(.type "super"), .none, (.fields #[(.ref 74), (.ref 74), (.ref 74)]), #[]⟩
def o76_3 : Obj := ⟨(.type "builtin_function_or_method"), .none, (.fields #[(.builtin "object.__init_subclass__"), (.ref 74)]), #[]⟩
def o77_3 : Obj := ⟨(.type "tuple"), .none, (.seq #[(.type "KeyError")] 0), #[]⟩
def o79_3 (P : Params) : Obj := ⟨(.type "dict"), .none, (.dict #[⟨(PySem.PyData.keyHash P "__module__"), (.str "__module__" 275), (.str "stepsback.errors" 194)⟩, ⟨(PySem.PyData.keyHash P "__qualname__"), (.str "__qualname__" 277), (.str "NoName" 276)⟩, ⟨(PySem.PyData.keyHash P "__firstlineno__"), (.str "__firstlineno__" 279), (.int 17 278)⟩, ⟨(PySem.PyData.keyHash P "__init__"), (.str "__init__" 288), (.ref 92)⟩, ⟨(PySem.PyData.keyHash P "__static_attributes__"), (.str "__static_attributes__" 290), (.ref 93)⟩, ⟨(PySem.PyData.keyHash P "__classcell__"), (.str "__classcell__" 291), (.ref 80)⟩] 6), #[]⟩
def o80_3 : Obj := ⟨(.type "cell"), .none, (.cell (.some (.ref 95))), #[]⟩
def o82_3 : Obj := ⟨.none, .none, (.fields #[(.int 19 0), (.int 4 0), (.ref 91)]), #[]⟩
def o83_3 : Obj := ⟨(.type "code"), .none, (.fields #[(.str "NoName" 270), (.str "NoName" 271), (.str "/claim/cut.py" 272), (.int 17 0), (.int 0 0), (.int 0 0), (.int 0 0), (.int 0 0), (.ref 81), (.bool .false), (.int 181 0), (.ref 82), .none, .none, .none, .none, (.int 273 0), (.int 17 0), (.str "/claim/cut.py" 274)]), #[]⟩
def o84_3 : Obj := ⟨(.type "frame"), .none, .plain, #[(.some (.ref 83)), (.some (.ref 3)), (.some (.ref 79)), .none, (.some (.str "stepsback.errors" 194)), .none, (.some (.ref 0))]⟩
def o85_3 : Obj := ⟨(.type "tuple"), .none, (.seq #[(.ref 80)] 0), #[]⟩
def o86_3 : Obj := ⟨(.type "tuple"), .none, (.seq #[(.str "__class__" 283)] 0), #[]⟩
def o88_3 : Obj := ⟨(.type "tuple"), .none, (.seq #[(.str "self" 284), (.str "name" 285)] 0), #[]⟩
def o90_3 : Obj := ⟨.none, .none, (.func ⟨"__init__", "NoName.__init__", (defArgs (inClass (top 5) 0)), (.stmts (defBody (inClass (top 5) 0))), (defScope (inClass (top 5) 0)), 0, [], .none, .none, .none, .none, .none, .none, .none, 0⟩), #[]⟩
def o91_3 : Obj := ⟨(.type "code"), .none, (.fields #[(.str "__init__" 280), (.str "NoName.__init__" 281), (.str "/claim/cut.py" 282), (.int 19 0), (.int 2 0), (.int 0 0), (.int 0 0), (.int 3 0), (.ref 86), (.bool .true), (.int 181 0), (.ref 87), .none, (.ref 88), (.ref 89), (.ref 90), (.int 286 0), (.int 19 0), (.str "/claim/cut.py" 287)]), #[]⟩
def o92_3 : Obj := ⟨(.type "function"), .none, (.func ⟨"__init__", "NoName.__init__", (defArgs (inClass (top 5) 0)), (.stmts (defBody (inClass (top 5) 0))), (defScope (inClass (top 5) 0)), 3, [("__class__", 80)], .none, .none, .none, (.str "stepsback.errors" 194), .none, (.ref 91), (.ref 85), 0⟩), #[]⟩
def o93_3 : Obj := ⟨(.type "tuple"), .none, (.seq #[(.str "name" 289)] 0), #[]⟩
def o94_3 (P : Params) : Obj := ⟨(.type "dict"), .none, (.dict #[⟨(PySem.PyData.keyHash P "__module__"), (.str "__module__" 275), (.str "stepsback.errors" 194)⟩, ⟨(PySem.PyData.keyHash P "__firstlineno__"), (.str "__firstlineno__" 279), (.int 17 278)⟩, ⟨(PySem.PyData.keyHash P "__init__"), (.str "__init__" 288), (.ref 92)⟩, ⟨(PySem.PyData.keyHash P "__static_attributes__"), (.str "__static_attributes__" 290), (.ref 93)⟩, ⟨(PySem.PyData.keyHash P "__weakref__"), (.str "__weakref__" 293), (.ref 96)⟩, ⟨(PySem.PyData.keyHash P "__doc__"), (.str "__doc__" 294), .none⟩] 4), #[]⟩
def o95_3 : Obj := ⟨(.type "type"), .none, (.cls ⟨"NoName", [(.type "KeyError")], [(.ref 95), (.type "KeyError"), (.type "LookupError"), (.type "Exception"), (.type "BaseException"), (.type "object")], 94, "NoName", .true, [], [], .false, .none, .false⟩), #[(.some (.ref 77)), .none, (.some (.str "NoName" 268)), (.some (.str "NoName" 276)), (.some (.builtin "LookupError.__new__")), (.some (.bool .true))]⟩
def o96_3 : Obj := ⟨(.type "getset_descriptor"), .none, (.fields #[(.str "__weakref__" 292), (.ref 95), (.builtin "ExceptionGroup.__weakref__"), .none]), #[]⟩
def o97_3 : Obj := ⟨(.type "super"), .none, (.fields #[(.ref 95), (.ref 95), (.ref 95)]), #[]⟩
def o98_3 : Obj := ⟨(.type "builtin_function_or_method"), .none, (.fields #[(.builtin "object.__init_subclass__"), (.ref 95)]), #[]⟩
def o99_3 : Obj := ⟨(.type "tuple"), .none, (.seq #[(.str "and" 303), (.str "any" 304), (.str "do" 305), (.str "if" 306), (.str "none" 307), (.str "not" 308), (.str "same" 309), (.str "send" 310), (.str "then" 311), (.str "time" 312), (.str "to" 313), (.str "wipe" 314), (.str "work" 315)] 0), #[]⟩
def o102_3 : Obj := ⟨.none, .none, (.func ⟨"is_name", "is_name", (defArgs (top 9)), (.stmts (defBody (top 9))), (defScope (top 9)), 0, [], .none, .none, .none, .none, .none, .none, .none, 0⟩), #[]⟩
def o103_3 : Obj := ⟨(.type "code"), .none, (.fields #[(.str "is_name" 317), (.str "is_name" 318), (.str "/claim/cut.py" 319), (.int 25 0), (.int 1 0), (.int 0 0), (.int 0 0), (.int 3 0), (.ref 100), (.bool .true), (.int 181 0), (.ref 101), .none, .none, .none, (.ref 102), (.int 320 0), (.int 25 0), (.str "/claim/cut.py" 321)]), #[]⟩
def o104_3 : Obj := ⟨(.type "function"), .none, (.func ⟨"is_name", "is_name", (defArgs (top 9)), (.stmts (defBody (top 9))), (defScope (top 9)), 3, [], .none, .none, .none, (.str "stepsback.words" 299), .none, (.ref 103), .none, 0⟩), #[]⟩
def o107_3 : Obj := ⟨(.type "tuple"), .none, (.seq #[(.str "value" 326)] 0), #[]⟩
def o109_3 : Obj := ⟨.none, .none, (.func ⟨"is_sequence", "is_sequence", (defArgs (top 10)), (.stmts (defBody (top 10))), (defScope (top 10)), 0, [], .none, .none, .none, .none, .none, .none, .none, 0⟩), #[]⟩
def o110_3 : Obj := ⟨(.type "code"), .none, (.fields #[(.str "is_sequence" 323), (.str "is_sequence" 324), (.str "/claim/cut.py" 325), (.int 29 0), (.int 1 0), (.int 0 0), (.int 0 0), (.int 3 0), (.ref 105), (.bool .true), (.int 181 0), (.ref 106), .none, (.ref 107), (.ref 108), (.ref 109), (.int 327 0), (.int 29 0), (.str "/claim/cut.py" 328)]), #[]⟩
def o111_3 : Obj := ⟨(.type "function"), .none, (.func ⟨"is_sequence", "is_sequence", (defArgs (top 10)), (.stmts (defBody (top 10))), (defScope (top 10)), 3, [], .none, .none, .none, (.str "stepsback.words" 299), .none, (.ref 110), .none, 0⟩), #[]⟩
def o114_3 : Obj := ⟨.none, .none, (.func ⟨"joined_with", "joined_with", (defArgs (top 12)), (.stmts (defBody (top 12))), (defScope (top 12)), 0, [], .none, .none, .none, .none, .none, .none, .none, 0⟩), #[]⟩
def o115_3 : Obj := ⟨(.type "code"), .none, (.fields #[(.str "joined_with" 332), (.str "joined_with" 333), (.str "/claim/cut.py" 334), (.int 32 0), (.int 3 0), (.int 0 0), (.int 0 0), (.int 3 0), (.ref 112), (.bool .true), (.int 181 0), (.ref 113), .none, .none, .none, (.ref 114), (.int 335 0), (.int 32 0), (.str "/claim/cut.py" 336)]), #[]⟩
def o116_3 : Obj := ⟨(.type "function"), .none, (.func ⟨"joined_with", "joined_with", (defArgs (top 12)), (.stmts (defBody (top 12))), (defScope (top 12)), 3, [], .none, .none, .none, (.str "stepsback.tasks" 330), .none, (.ref 115), .none, 0⟩), #[]⟩
def o119_3 : Obj := ⟨(.type "tuple"), .none, (.seq #[(.str "pairs" 341), (.str "found" 342), (.str "pair" 343), (.str "waiting" 344), (.str "at" 345), (.str "one" 346), (.str "other" 347)] 0), #[]⟩
def o121_3 : Obj := ⟨.none, .none, (.func ⟨"closed", "closed", (defArgs (top 13)), (.stmts (defBody (top 13))), (defScope (top 13)), 0, [], .none, .none, .none, .none, .none, .none, .none, 0⟩), #[]⟩
def o122_3 : Obj := ⟨(.type "code"), .none, (.fields #[(.str "closed" 338), (.str "closed" 339), (.str "/claim/cut.py" 340), (.int 35 0), (.int 1 0), (.int 0 0), (.int 0 0), (.int 3 0), (.ref 117), (.bool .true), (.int 181 0), (.ref 118), .none, (.ref 119), (.ref 120), (.ref 121), (.int 348 0), (.int 35 0), (.str "/claim/cut.py" 349)]), #[]⟩
def o123_3 : Obj := ⟨(.type "function"), .none, (.func ⟨"closed", "closed", (defArgs (top 13)), (.stmts (defBody (top 13))), (defScope (top 13)), 3, [], .none, .none, .none, (.str "stepsback.tasks" 330), .none, (.ref 122), .none, 0⟩), #[]⟩
def o126_3 : Obj := ⟨.none, .none, (.func ⟨"has_ring", "has_ring", (defArgs (top 14)), (.stmts (defBody (top 14))), (defScope (top 14)), 0, [], .none, .none, .none, .none, .none, .none, .none, 0⟩), #[]⟩
def o127_3 : Obj := ⟨(.type "code"), .none, (.fields #[(.str "has_ring" 351), (.str "has_ring" 352), (.str "/claim/cut.py" 353), (.int 49 0), (.int 1 0), (.int 0 0), (.int 0 0), (.int 3 0), (.ref 124), (.bool .true), (.int 181 0), (.ref 125), .none, .none, .none, (.ref 126), (.int 354 0), (.int 49 0), (.str "/claim/cut.py" 355)]), #[]⟩
def o128_3 : Obj := ⟨(.type "function"), .none, (.func ⟨"has_ring", "has_ring", (defArgs (top 14)), (.stmts (defBody (top 14))), (defScope (top 14)), 3, [], .none, .none, .none, (.str "stepsback.tasks" 330), .none, (.ref 127), .none, 0⟩), #[]⟩
def o131_3 : Obj := ⟨.none, .none, (.func ⟨"is_need", "is_need", (defArgs (top 15)), (.stmts (defBody (top 15))), (defScope (top 15)), 0, [], .none, .none, .none, .none, .none, .none, .none, 0⟩), #[]⟩
def o132_3 : Obj := ⟨(.type "code"), .none, (.fields #[(.str "is_need" 357), (.str "is_need" 358), (.str "/claim/cut.py" 359), (.int 51 0), (.int 2 0), (.int 0 0), (.int 0 0), (.int 3 0), (.ref 129), (.bool .true), (.int 181 0), (.ref 130), .none, .none, .none, (.ref 131), (.int 360 0), (.int 51 0), (.str "/claim/cut.py" 361)]), #[]⟩
def o133_3 : Obj := ⟨(.type "function"), .none, (.func ⟨"is_need", "is_need", (defArgs (top 15)), (.stmts (defBody (top 15))), (defScope (top 15)), 3, [], .none, .none, .none, (.str "stepsback.tasks" 330), .none, (.ref 132), .none, 0⟩), #[]⟩
def o136_3 (P : Params) : Obj := ⟨(.type "dict"), .none, (.dict #[⟨(PySem.PyData.keyHash P "__module__"), (.str "__module__" 370), (.str "stepsback.tasks" 330)⟩, ⟨(PySem.PyData.keyHash P "__qualname__"), (.str "__qualname__" 372), (.str "Task" 371)⟩, ⟨(PySem.PyData.keyHash P "__firstlineno__"), (.str "__firstlineno__" 374), (.int 55 373)⟩, ⟨(PySem.PyData.keyHash P "__init__"), (.str "__init__" 384), (.ref 148)⟩, ⟨(PySem.PyData.keyHash P "__eq__"), (.str "__eq__" 392), (.ref 155)⟩, ⟨(PySem.PyData.keyHash P "__static_attributes__"), (.str "__static_attributes__" 396), (.ref 156)⟩] 6), #[]⟩
def o138_3 : Obj := ⟨.none, .none, (.fields #[(.int 57 0), (.int 4 0), (.ref 147), (.int 68 0), (.int 4 0), (.ref 154)]), #[]⟩
def o139_3 : Obj := ⟨(.type "code"), .none, (.fields #[(.str "Task" 365), (.str "Task" 366), (.str "/claim/cut.py" 367), (.int 55 0), (.int 0 0), (.int 0 0), (.int 0 0), (.int 0 0), (.ref 137), (.bool .false), (.int 181 0), (.ref 138), .none, .none, .none, .none, (.int 368 0), (.int 55 0), (.str "/claim/cut.py" 369)]), #[]⟩
def o140_3 : Obj := ⟨(.type "frame"), .none, .plain, #[(.some (.ref 139)), (.some (.ref 3)), (.some (.ref 136)), .none, (.some (.str "stepsback.tasks" 330)), .none, (.some (.ref 0))]⟩
def o141_3 : Obj := ⟨(.type "tuple"), .none, (.seq #[(.bool .true), (.bool .false)] 0), #[]⟩
def o144_3 : Obj := ⟨(.type "tuple"), .none, (.seq #[(.str "self" 378), (.str "name" 379), (.str "back" 380), (.str "sure" 381)] 0), #[]⟩
def o146_3 : Obj := ⟨.none, .none, (.func ⟨"__init__", "Task.__init__", (defArgs (inClass (top 16) 0)), (.stmts (defBody (inClass (top 16) 0))), (defScope (inClass (top 16) 0)), 0, [], .none, .none, .none, .none, .none, .none, .none, 0⟩), #[]⟩
def o147_3 : Obj := ⟨(.type "code"), .none, (.fields #[(.str "__init__" 375), (.str "Task.__init__" 376), (.str "/claim/cut.py" 377), (.int 57 0), (.int 4 0), (.int 0 0), (.int 0 0), (.int 3 0), (.ref 142), (.bool .true), (.int 181 0), (.ref 143), .none, (.ref 144), (.ref 145), (.ref 146), (.int 382 0), (.int 57 0), (.str "/claim/cut.py" 383)]), #[]⟩
def o148_3 : Obj := ⟨(.type "function"), .none, (.func ⟨"__init__", "Task.__init__", (defArgs (inClass (top 16) 0)), (.stmts (defBody (inClass (top 16) 0))), (defScope (inClass (top 16) 0)), 3, [], (.ref 141), .none, .none, (.str "stepsback.tasks" 330), .none, (.ref 147), .none, 0⟩), #[]⟩
def o151_3 : Obj := ⟨(.type "tuple"), .none, (.seq #[(.str "self" 388), (.str "other" 389)] 0), #[]⟩
def o153_3 : Obj := ⟨.none, .none, (.func ⟨"__eq__", "Task.__eq__", (defArgs (inClass (top 16) 1)), (.stmts (defBody (inClass (top 16) 1))), (defScope (inClass (top 16) 1)), 0, [], .none, .none, .none, .none, .none, .none, .none, 0⟩), #[]⟩
def o154_3 : Obj := ⟨(.type "code"), .none, (.fields #[(.str "__eq__" 385), (.str "Task.__eq__" 386), (.str "/claim/cut.py" 387), (.int 68 0), (.int 2 0), (.int 0 0), (.int 0 0), (.int 3 0), (.ref 149), (.bool .true), (.int 181 0), (.ref 150), .none, (.ref 151), (.ref 152), (.ref 153), (.int 390 0), (.int 68 0), (.str "/claim/cut.py" 391)]), #[]⟩
def o155_3 : Obj := ⟨(.type "function"), .none, (.func ⟨"__eq__", "Task.__eq__", (defArgs (inClass (top 16) 1)), (.stmts (defBody (inClass (top 16) 1))), (defScope (inClass (top 16) 1)), 3, [], .none, .none, .none, (.str "stepsback.tasks" 330), .none, (.ref 154), .none, 0⟩), #[]⟩
def o156_3 : Obj := ⟨(.type "tuple"), .none, (.seq #[(.str "back" 393), (.str "name" 394), (.str "sure" 395)] 0), #[]⟩
def o157_3 (P : Params) : Obj := ⟨(.type "dict"), .none, (.dict #[⟨(PySem.PyData.keyHash P "__module__"), (.str "__module__" 370), (.str "stepsback.tasks" 330)⟩, ⟨(PySem.PyData.keyHash P "__firstlineno__"), (.str "__firstlineno__" 374), (.int 55 373)⟩, ⟨(PySem.PyData.keyHash P "__init__"), (.str "__init__" 384), (.ref 148)⟩, ⟨(PySem.PyData.keyHash P "__eq__"), (.str "__eq__" 392), (.ref 155)⟩, ⟨(PySem.PyData.keyHash P "__static_attributes__"), (.str "__static_attributes__" 396), (.ref 156)⟩, ⟨(PySem.PyData.keyHash P "__dict__"), (.str "__dict__" 398), (.ref 159)⟩, ⟨(PySem.PyData.keyHash P "__weakref__"), (.str "__weakref__" 400), (.ref 160)⟩, ⟨(PySem.PyData.keyHash P "__doc__"), (.str "__doc__" 401), .none⟩, ⟨(PySem.PyData.keyHash P "__hash__"), (.str "__hash__" 402), .none⟩] 5), #[]⟩
def o158_3 : Obj := ⟨(.type "type"), .none, (.cls ⟨"Task", [(.type "object")], [(.ref 158), (.type "object")], 157, "Task", .true, [], [], .false, .none, .false⟩), #[.none, .none, (.some (.str "Task" 363)), (.some (.str "Task" 371)), (.some (.builtin "object.__new__")), (.some (.bool .true))]⟩
def o159_3 : Obj := ⟨(.type "getset_descriptor"), .none, (.fields #[(.str "__dict__" 397), (.ref 158), (.builtin "function.__dict__"), (.builtin "function.__dict__#set")]), #[]⟩
def o160_3 : Obj := ⟨(.type "getset_descriptor"), .none, (.fields #[(.str "__weakref__" 399), (.ref 158), (.builtin "ExceptionGroup.__weakref__"), .none]), #[]⟩
def o161_3 : Obj := ⟨(.type "super"), .none, (.fields #[(.ref 158), (.ref 158), (.ref 158)]), #[]⟩
def o162_3 : Obj := ⟨(.type "builtin_function_or_method"), .none, (.fields #[(.builtin "object.__init_subclass__"), (.ref 158)]), #[]⟩
def o165_3 (P : Params) : Obj := ⟨(.type "dict"), .none, (.dict #[⟨(PySem.PyData.keyHash P "__module__"), (.str "__module__" 412), (.str "stepsback.tasks" 330)⟩, ⟨(PySem.PyData.keyHash P "__qualname__"), (.str "__qualname__" 414), (.str "Tasks" 413)⟩, ⟨(PySem.PyData.keyHash P "__firstlineno__"), (.str "__firstlineno__" 416), (.int 72 415)⟩, ⟨(PySem.PyData.keyHash P "__init__"), (.str "__init__" 422), (.ref 176)⟩, ⟨(PySem.PyData.keyHash P "called"), (.str "called" 428), (.ref 181)⟩, ⟨(PySem.PyData.keyHash P "bound"), (.str "bound" 434), (.ref 188)⟩, ⟨(PySem.PyData.keyHash P "ahead"), (.str "ahead" 441), (.ref 194)⟩, ⟨(PySem.PyData.keyHash P "next_names"), (.str "next_names" 449), (.ref 201)⟩, ⟨(PySem.PyData.keyHash P "many"), (.str "many" 457), (.ref 209)⟩, ⟨(PySem.PyData.keyHash P "earliest"), (.str "earliest" 465), (.ref 217)⟩, ⟨(PySem.PyData.keyHash P "least_sure"), (.str "least_sure" 473), (.ref 225)⟩, ⟨(PySem.PyData.keyHash P "is_safe"), (.str "is_safe" 481), (.ref 232)⟩, ⟨(PySem.PyData.keyHash P "__or__"), (.str "__or__" 489), (.ref 239)⟩, ⟨(PySem.PyData.keyHash P "__len__"), (.str "__len__" 496), (.ref 246)⟩, ⟨(PySem.PyData.keyHash P "__contains__"), (.str "__contains__" 504), (.ref 253)⟩, ⟨(PySem.PyData.keyHash P "__getitem__"), (.str "__getitem__" 513), (.ref 260)⟩, ⟨(PySem.PyData.keyHash P "__iter__"), (.str "__iter__" 520), (.ref 267)⟩, ⟨(PySem.PyData.keyHash P "__static_attributes__"), (.str "__static_attributes__" 523), (.ref 268)⟩] 18), #[]⟩
def o167_3 : Obj := ⟨.none, .none, (.fields #[(.int 74 0), (.int 4 0), (.ref 175), (.int 87 0), (.int 4 0), (.ref 180), (.int 90 0), (.int 4 0), (.ref 187), (.int 99 0), (.int 4 0), (.ref 192), (.int 105 0), (.int 4 0), (.ref 200), (.int 109 0), (.int 4 0), (.ref 207), (.int 113 0), (.int 4 0), (.ref 215), (.int 117 0), (.int 4 0), (.ref 223), (.int 120 0), (.int 4 0), (.ref 231), (.int 123 0), (.int 4 0), (.ref 238), (.int 128 0), (.int 4 0), (.ref 245), (.int 131 0), (.int 4 0), (.ref 252), (.int 134 0), (.int 4 0), (.ref 259), (.int 140 0), (.int 4 0), (.ref 266)]), #[]⟩
def o168_3 : Obj := ⟨(.type "code"), .none, (.fields #[(.str "Tasks" 407), (.str "Tasks" 408), (.str "/claim/cut.py" 409), (.int 72 0), (.int 0 0), (.int 0 0), (.int 0 0), (.int 0 0), (.ref 166), (.bool .false), (.int 181 0), (.ref 167), .none, .none, .none, .none, (.int 410 0), (.int 72 0), (.str "/claim/cut.py" 411)]), #[]⟩
def o169_3 : Obj := ⟨(.type "frame"), .none, .plain, #[(.some (.ref 168)), (.some (.ref 3)), (.some (.ref 165)), .none, (.some (.str "stepsback.tasks" 330)), .none, (.some (.ref 0))]⟩
def o171_3 : Obj := ⟨(.type "tuple"), .none, (.seq #[(.ref 170)] 0), #[]⟩
def o174_3 : Obj := ⟨.none, .none, (.func ⟨"__init__", "Tasks.__init__", (defArgs (inClass (top 17) 0)), (.stmts (defBody (inClass (top 17) 0))), (defScope (inClass (top 17) 0)), 0, [], .none, .none, .none, .none, .none, .none, .none, 0⟩), #[]⟩
def o175_3 : Obj := ⟨(.type "code"), .none, (.fields #[(.str "__init__" 417), (.str "Tasks.__init__" 418), (.str "/claim/cut.py" 419), (.int 74 0), (.int 3 0), (.int 0 0), (.int 0 0), (.int 3 0), (.ref 172), (.bool .true), (.int 181 0), (.ref 173), .none, .none, .none, (.ref 174), (.int 420 0), (.int 74 0), (.str "/claim/cut.py" 421)]), #[]⟩
def o176_3 : Obj := ⟨(.type "function"), .none, (.func ⟨"__init__", "Tasks.__init__", (defArgs (inClass (top 17) 0)), (.stmts (defBody (inClass (top 17) 0))), (defScope (inClass (top 17) 0)), 3, [], (.ref 171), .none, .none, (.str "stepsback.tasks" 330), .none, (.ref 175), .none, 0⟩), #[]⟩
def o179_3 : Obj := ⟨.none, .none, (.func ⟨"called", "Tasks.called", (defArgs (inClass (top 17) 1)), (.stmts (defBody (inClass (top 17) 1))), (defScope (inClass (top 17) 1)), 0, [], .none, .none, .none, .none, .none, .none, .none, 0⟩), #[]⟩
def o180_3 : Obj := ⟨(.type "code"), .none, (.fields #[(.str "called" 423), (.str "Tasks.called" 424), (.str "/claim/cut.py" 425), (.int 87 0), (.int 1 0), (.int 0 0), (.int 0 0), (.int 3 0), (.ref 177), (.bool .true), (.int 181 0), (.ref 178), .none, .none, .none, (.ref 179), (.int 426 0), (.int 87 0), (.str "/claim/cut.py" 427)]), #[]⟩
def o181_3 : Obj := ⟨(.type "function"), .none, (.func ⟨"called", "Tasks.called", (defArgs (inClass (top 17) 1)), (.stmts (defBody (inClass (top 17) 1))), (defScope (inClass (top 17) 1)), 3, [], .none, .none, .none, (.str "stepsback.tasks" 330), .none, (.ref 180), .none, 0⟩), #[]⟩
def o183_3 : Obj := ⟨(.type "tuple"), .none, (.seq #[(.ref 182)] 0), #[]⟩
def o186_3 : Obj := ⟨.none, .none, (.func ⟨"bound", "Tasks.bound", (defArgs (inClass (top 17) 2)), (.stmts (defBody (inClass (top 17) 2))), (defScope (inClass (top 17) 2)), 0, [], .none, .none, .none, .none, .none, .none, .none, 0⟩), #[]⟩
def o187_3 : Obj := ⟨(.type "code"), .none, (.fields #[(.str "bound" 429), (.str "Tasks.bound" 430), (.str "/claim/cut.py" 431), (.int 90 0), (.int 2 0), (.int 0 0), (.int 0 0), (.int 3 0), (.ref 184), (.bool .true), (.int 181 0), (.ref 185), .none, .none, .none, (.ref 186), (.int 432 0), (.int 90 0), (.str "/claim/cut.py" 433)]), #[]⟩
def o188_3 : Obj := ⟨(.type "function"), .none, (.func ⟨"bound", "Tasks.bound", (defArgs (inClass (top 17) 2)), (.stmts (defBody (inClass (top 17) 2))), (defScope (inClass (top 17) 2)), 3, [], (.ref 183), .none, .none, (.str "stepsback.tasks" 330), .none, (.ref 187), .none, 0⟩), #[]⟩
def o191_3 : Obj := ⟨.none, .none, (.func ⟨"ahead", "Tasks.ahead", (defArgs (inClass (top 17) 3)), (.stmts (defBody (inClass (top 17) 3))), (defScope (inClass (top 17) 3)), 0, [], .none, .none, .none, .none, .none, .none, .none, 0⟩), #[]⟩
def o192_3 : Obj := ⟨(.type "code"), .none, (.fields #[(.str "ahead" 435), (.str "Tasks.ahead" 436), (.str "/claim/cut.py" 437), (.int 98 0), (.int 1 0), (.int 0 0), (.int 0 0), (.int 3 0), (.ref 189), (.bool .true), (.int 181 0), (.ref 190), .none, .none, .none, (.ref 191), (.int 438 0), (.int 98 0), (.str "/claim/cut.py" 439)]), #[]⟩
def o193_3 : Obj := ⟨(.type "function"), .none, (.func ⟨"ahead", "Tasks.ahead", (defArgs (inClass (top 17) 3)), (.stmts (defBody (inClass (top 17) 3))), (defScope (inClass (top 17) 3)), 3, [], .none, .none, .none, (.str "stepsback.tasks" 330), .none, (.ref 192), .none, 0⟩), #[]⟩
def o194_3 : Obj := ⟨(.type "property"), .none, (.fields #[(.ref 193), .none, .none, .none, (.str "ahead" 441), (.bool .false)]), #[]⟩
def o197_3 : Obj := ⟨(.type "tuple"), .none, (.seq #[(.str "self" 445), (.str "done" 446)] 0), #[]⟩
def o199_3 : Obj := ⟨.none, .none, (.func ⟨"next_names", "Tasks.next_names", (defArgs (inClass (top 17) 4)), (.stmts (defBody (inClass (top 17) 4))), (defScope (inClass (top 17) 4)), 0, [], .none, .none, .none, .none, .none, .none, .none, 0⟩), #[]⟩
def o200_3 : Obj := ⟨(.type "code"), .none, (.fields #[(.str "next_names" 442), (.str "Tasks.next_names" 443), (.str "/claim/cut.py" 444), (.int 105 0), (.int 2 0), (.int 0 0), (.int 0 0), (.int 3 0), (.ref 195), (.bool .true), (.int 181 0), (.ref 196), .none, (.ref 197), (.ref 198), (.ref 199), (.int 447 0), (.int 105 0), (.str "/claim/cut.py" 448)]), #[]⟩
def o201_3 : Obj := ⟨(.type "function"), .none, (.func ⟨"next_names", "Tasks.next_names", (defArgs (inClass (top 17) 4)), (.stmts (defBody (inClass (top 17) 4))), (defScope (inClass (top 17) 4)), 3, [], .none, .none, .none, (.str "stepsback.tasks" 330), .none, (.ref 200), .none, 0⟩), #[]⟩
def o204_3 : Obj := ⟨(.type "tuple"), .none, (.seq #[(.str "self" 453)] 0), #[]⟩
def o206_3 : Obj := ⟨.none, .none, (.func ⟨"many", "Tasks.many", (defArgs (inClass (top 17) 5)), (.stmts (defBody (inClass (top 17) 5))), (defScope (inClass (top 17) 7)), 0, [], .none, .none, .none, .none, .none, .none, .none, 0⟩), #[]⟩
def o207_3 : Obj := ⟨(.type "code"), .none, (.fields #[(.str "many" 450), (.str "Tasks.many" 451), (.str "/claim/cut.py" 452), (.int 108 0), (.int 1 0), (.int 0 0), (.int 0 0), (.int 3 0), (.ref 202), (.bool .true), (.int 181 0), (.ref 203), .none, (.ref 204), (.ref 205), (.ref 206), (.int 454 0), (.int 108 0), (.str "/claim/cut.py" 455)]), #[]⟩
def o208_3 : Obj := ⟨(.type "function"), .none, (.func ⟨"many", "Tasks.many", (defArgs (inClass (top 17) 5)), (.stmts (defBody (inClass (top 17) 5))), (defScope (inClass (top 17) 7)), 3, [], .none, .none, .none, (.str "stepsback.tasks" 330), .none, (.ref 207), .none, 0⟩), #[]⟩
def o209_3 : Obj := ⟨(.type "property"), .none, (.fields #[(.ref 208), .none, .none, .none, (.str "many" 457), (.bool .false)]), #[]⟩
def o212_3 : Obj := ⟨(.type "tuple"), .none, (.seq #[(.str "self" 461)] 0), #[]⟩
def o214_3 : Obj := ⟨.none, .none, (.func ⟨"earliest", "Tasks.earliest", (defArgs (inClass (top 17) 6)), (.stmts (defBody (inClass (top 17) 6))), (defScope (inClass (top 17) 7)), 0, [], .none, .none, .none, .none, .none, .none, .none, 0⟩), #[]⟩
def o215_3 : Obj := ⟨(.type "code"), .none, (.fields #[(.str "earliest" 458), (.str "Tasks.earliest" 459), (.str "/claim/cut.py" 460), (.int 112 0), (.int 1 0), (.int 0 0), (.int 0 0), (.int 3 0), (.ref 210), (.bool .true), (.int 181 0), (.ref 211), .none, (.ref 212), (.ref 213), (.ref 214), (.int 462 0), (.int 112 0), (.str "/claim/cut.py" 463)]), #[]⟩
def o216_3 : Obj := ⟨(.type "function"), .none, (.func ⟨"earliest", "Tasks.earliest", (defArgs (inClass (top 17) 6)), (.stmts (defBody (inClass (top 17) 6))), (defScope (inClass (top 17) 7)), 3, [], .none, .none, .none, (.str "stepsback.tasks" 330), .none, (.ref 215), .none, 0⟩), #[]⟩
def o217_3 : Obj := ⟨(.type "property"), .none, (.fields #[(.ref 216), .none, .none, .none, (.str "earliest" 465), (.bool .false)]), #[]⟩
def o220_3 : Obj := ⟨(.type "tuple"), .none, (.seq #[(.str "self" 469)] 0), #[]⟩
def o222_3 : Obj := ⟨.none, .none, (.func ⟨"least_sure", "Tasks.least_sure", (defArgs (inClass (top 17) 7)), (.stmts (defBody (inClass (top 17) 7))), (defScope (inClass (top 17) 7)), 0, [], .none, .none, .none, .none, .none, .none, .none, 0⟩), #[]⟩
def o223_3 : Obj := ⟨(.type "code"), .none, (.fields #[(.str "least_sure" 466), (.str "Tasks.least_sure" 467), (.str "/claim/cut.py" 468), (.int 116 0), (.int 1 0), (.int 0 0), (.int 0 0), (.int 3 0), (.ref 218), (.bool .true), (.int 181 0), (.ref 219), .none, (.ref 220), (.ref 221), (.ref 222), (.int 470 0), (.int 116 0), (.str "/claim/cut.py" 471)]), #[]⟩
def o224_3 : Obj := ⟨(.type "function"), .none, (.func ⟨"least_sure", "Tasks.least_sure", (defArgs (inClass (top 17) 7)), (.stmts (defBody (inClass (top 17) 7))), (defScope (inClass (top 17) 7)), 3, [], .none, .none, .none, (.str "stepsback.tasks" 330), .none, (.ref 223), .none, 0⟩), #[]⟩
def o225_3 : Obj := ⟨(.type "property"), .none, (.fields #[(.ref 224), .none, .none, .none, (.str "least_sure" 473), (.bool .false)]), #[]⟩
def o228_3 : Obj := ⟨(.type "tuple"), .none, (.seq #[(.str "self" 477), (.str "value" 478)] 0), #[]⟩
def o230_3 : Obj := ⟨.none, .none, (.func ⟨"is_safe", "Tasks.is_safe", (defArgs (inClass (top 17) 8)), (.stmts (defBody (inClass (top 17) 8))), (defScope (inClass (top 17) 8)), 0, [], .none, .none, .none, .none, .none, .none, .none, 0⟩), #[]⟩
def o231_3 : Obj := ⟨(.type "code"), .none, (.fields #[(.str "is_safe" 474), (.str "Tasks.is_safe" 475), (.str "/claim/cut.py" 476), (.int 120 0), (.int 2 0), (.int 0 0), (.int 0 0), (.int 3 0), (.ref 226), (.bool .true), (.int 181 0), (.ref 227), .none, (.ref 228), (.ref 229), (.ref 230), (.int 479 0), (.int 120 0), (.str "/claim/cut.py" 480)]), #[]⟩
def o232_3 : Obj := ⟨(.type "function"), .none, (.func ⟨"is_safe", "Tasks.is_safe", (defArgs (inClass (top 17) 8)), (.stmts (defBody (inClass (top 17) 8))), (defScope (inClass (top 17) 8)), 3, [], .none, .none, .none, (.str "stepsback.tasks" 330), .none, (.ref 231), .none, 0⟩), #[]⟩
def o235_3 : Obj := ⟨(.type "tuple"), .none, (.seq #[(.str "self" 485), (.str "other" 486)] 0), #[]⟩
def o237_3 : Obj := ⟨.none, .none, (.func ⟨"__or__", "Tasks.__or__", (defArgs (inClass (top 17) 9)), (.stmts (defBody (inClass (top 17) 9))), (defScope (inClass (top 17) 9)), 0, [], .none, .none, .none, .none, .none, .none, .none, 0⟩), #[]⟩
def o238_3 : Obj := ⟨(.type "code"), .none, (.fields #[(.str "__or__" 482), (.str "Tasks.__or__" 483), (.str "/claim/cut.py" 484), (.int 123 0), (.int 2 0), (.int 0 0), (.int 0 0), (.int 3 0), (.ref 233), (.bool .true), (.int 181 0), (.ref 234), .none, (.ref 235), (.ref 236), (.ref 237), (.int 487 0), (.int 123 0), (.str "/claim/cut.py" 488)]), #[]⟩
def o239_3 : Obj := ⟨(.type "function"), .none, (.func ⟨"__or__", "Tasks.__or__", (defArgs (inClass (top 17) 9)), (.stmts (defBody (inClass (top 17) 9))), (defScope (inClass (top 17) 9)), 3, [], .none, .none, .none, (.str "stepsback.tasks" 330), .none, (.ref 238), .none, 0⟩), #[]⟩
def o242_3 : Obj := ⟨(.type "tuple"), .none, (.seq #[(.str "self" 493)] 0), #[]⟩
def o244_3 : Obj := ⟨.none, .none, (.func ⟨"__len__", "Tasks.__len__", (defArgs (inClass (top 17) 10)), (.stmts (defBody (inClass (top 17) 10))), (defScope (inClass (top 17) 10)), 0, [], .none, .none, .none, .none, .none, .none, .none, 0⟩), #[]⟩
def o245_3 : Obj := ⟨(.type "code"), .none, (.fields #[(.str "__len__" 490), (.str "Tasks.__len__" 491), (.str "/claim/cut.py" 492), (.int 128 0), (.int 1 0), (.int 0 0), (.int 0 0), (.int 3 0), (.ref 240), (.bool .true), (.int 181 0), (.ref 241), .none, (.ref 242), (.ref 243), (.ref 244), (.int 494 0), (.int 128 0), (.str "/claim/cut.py" 495)]), #[]⟩
def o246_3 : Obj := ⟨(.type "function"), .none, (.func ⟨"__len__", "Tasks.__len__", (defArgs (inClass (top 17) 10)), (.stmts (defBody (inClass (top 17) 10))), (defScope (inClass (top 17) 10)), 3, [], .none, .none, .none, (.str "stepsback.tasks" 330), .none, (.ref 245), .none, 0⟩), #[]⟩
def o249_3 : Obj := ⟨(.type "tuple"), .none, (.seq #[(.str "self" 500), (.str "value" 501)] 0), #[]⟩
def o251_3 : Obj := ⟨.none, .none, (.func ⟨"__contains__", "Tasks.__contains__", (defArgs (inClass (top 17) 11)), (.stmts (defBody (inClass (top 17) 11))), (defScope (inClass (top 17) 11)), 0, [], .none, .none, .none, .none, .none, .none, .none, 0⟩), #[]⟩
def o252_3 : Obj := ⟨(.type "code"), .none, (.fields #[(.str "__contains__" 497), (.str "Tasks.__contains__" 498), (.str "/claim/cut.py" 499), (.int 131 0), (.int 2 0), (.int 0 0), (.int 0 0), (.int 3 0), (.ref 247), (.bool .true), (.int 181 0), (.ref 248), .none, (.ref 249), (.ref 250), (.ref 251), (.int 502 0), (.int 131 0), (.str "/claim/cut.py" 503)]), #[]⟩
def o253_3 : Obj := ⟨(.type "function"), .none, (.func ⟨"__contains__", "Tasks.__contains__", (defArgs (inClass (top 17) 11)), (.stmts (defBody (inClass (top 17) 11))), (defScope (inClass (top 17) 11)), 3, [], .none, .none, .none, (.str "stepsback.tasks" 330), .none, (.ref 252), .none, 0⟩), #[]⟩
def o256_3 : Obj := ⟨(.type "tuple"), .none, (.seq #[(.str "self" 508), (.str "name" 509), (.str "task" 510)] 0), #[]⟩
def o258_3 : Obj := ⟨.none, .none, (.func ⟨"__getitem__", "Tasks.__getitem__", (defArgs (inClass (top 17) 12)), (.stmts (defBody (inClass (top 17) 12))), (defScope (inClass (top 17) 12)), 0, [], .none, .none, .none, .none, .none, .none, .none, 0⟩), #[]⟩
def o259_3 : Obj := ⟨(.type "code"), .none, (.fields #[(.str "__getitem__" 505), (.str "Tasks.__getitem__" 506), (.str "/claim/cut.py" 507), (.int 134 0), (.int 2 0), (.int 0 0), (.int 0 0), (.int 3 0), (.ref 254), (.bool .true), (.int 181 0), (.ref 255), .none, (.ref 256), (.ref 257), (.ref 258), (.int 511 0), (.int 134 0), (.str "/claim/cut.py" 512)]), #[]⟩
def o260_3 : Obj := ⟨(.type "function"), .none, (.func ⟨"__getitem__", "Tasks.__getitem__", (defArgs (inClass (top 17) 12)), (.stmts (defBody (inClass (top 17) 12))), (defScope (inClass (top 17) 12)), 3, [], .none, .none, .none, (.str "stepsback.tasks" 330), .none, (.ref 259), .none, 0⟩), #[]⟩
def o263_3 : Obj := ⟨(.type "tuple"), .none, (.seq #[(.str "self" 517)] 0), #[]⟩
def o265_3 : Obj := ⟨.none, .none, (.func ⟨"__iter__", "Tasks.__iter__", (defArgs (inClass (top 17) 13)), (.stmts (defBody (inClass (top 17) 13))), (defScope (inClass (top 17) 13)), 0, [], .none, .none, .none, .none, .none, .none, .none, 0⟩), #[]⟩
def o266_3 : Obj := ⟨(.type "code"), .none, (.fields #[(.str "__iter__" 514), (.str "Tasks.__iter__" 515), (.str "/claim/cut.py" 516), (.int 140 0), (.int 1 0), (.int 0 0), (.int 0 0), (.int 3 0), (.ref 261), (.bool .true), (.int 181 0), (.ref 262), .none, (.ref 263), (.ref 264), (.ref 265), (.int 518 0), (.int 140 0), (.str "/claim/cut.py" 519)]), #[]⟩
def o267_3 : Obj := ⟨(.type "function"), .none, (.func ⟨"__iter__", "Tasks.__iter__", (defArgs (inClass (top 17) 13)), (.stmts (defBody (inClass (top 17) 13))), (defScope (inClass (top 17) 13)), 3, [], .none, .none, .none, (.str "stepsback.tasks" 330), .none, (.ref 266), .none, 0⟩), #[]⟩
def o268_3 : Obj := ⟨(.type "tuple"), .none, (.seq #[(.str "needs" 521), (.str "tasks" 522)] 0), #[]⟩
def o269_3 (P : Params) : Obj := ⟨(.type "dict"), .none, (.dict #[⟨(PySem.PyData.keyHash P "__module__"), (.str "__module__" 412), (.str "stepsback.tasks" 330)⟩, ⟨(PySem.PyData.keyHash P "__firstlineno__"), (.str "__firstlineno__" 416), (.int 72 415)⟩, ⟨(PySem.PyData.keyHash P "__init__"), (.str "__init__" 422), (.ref 176)⟩, ⟨(PySem.PyData.keyHash P "called"), (.str "called" 428), (.ref 181)⟩, ⟨(PySem.PyData.keyHash P "bound"), (.str "bound" 434), (.ref 188)⟩, ⟨(PySem.PyData.keyHash P "ahead"), (.str "ahead" 441), (.ref 194)⟩, ⟨(PySem.PyData.keyHash P "next_names"), (.str "next_names" 449), (.ref 201)⟩, ⟨(PySem.PyData.keyHash P "many"), (.str "many" 457), (.ref 209)⟩, ⟨(PySem.PyData.keyHash P "earliest"), (.str "earliest" 465), (.ref 217)⟩, ⟨(PySem.PyData.keyHash P "least_sure"), (.str "least_sure" 473), (.ref 225)⟩, ⟨(PySem.PyData.keyHash P "is_safe"), (.str "is_safe" 481), (.ref 232)⟩, ⟨(PySem.PyData.keyHash P "__or__"), (.str "__or__" 489), (.ref 239)⟩, ⟨(PySem.PyData.keyHash P "__len__"), (.str "__len__" 496), (.ref 246)⟩, ⟨(PySem.PyData.keyHash P "__contains__"), (.str "__contains__" 504), (.ref 253)⟩, ⟨(PySem.PyData.keyHash P "__getitem__"), (.str "__getitem__" 513), (.ref 260)⟩, ⟨(PySem.PyData.keyHash P "__iter__"), (.str "__iter__" 520), (.ref 267)⟩, ⟨(PySem.PyData.keyHash P "__static_attributes__"), (.str "__static_attributes__" 523), (.ref 268)⟩, ⟨(PySem.PyData.keyHash P "__dict__"), (.str "__dict__" 525), (.ref 271)⟩, ⟨(PySem.PyData.keyHash P "__weakref__"), (.str "__weakref__" 527), (.ref 272)⟩, ⟨(PySem.PyData.keyHash P "__doc__"), (.str "__doc__" 528), .none⟩] 4), #[]⟩
def o270_3 : Obj := ⟨(.type "type"), .none, (.cls ⟨"Tasks", [(.type "object")], [(.ref 270), (.type "object")], 269, "Tasks", .true, [], [], .false, .none, .false⟩), #[.none, .none, (.some (.str "Tasks" 405)), (.some (.str "Tasks" 413)), (.some (.builtin "object.__new__")), (.some (.bool .true))]⟩
def o271_3 : Obj := ⟨(.type "getset_descriptor"), .none, (.fields #[(.str "__dict__" 524), (.ref 270), (.builtin "function.__dict__"), (.builtin "function.__dict__#set")]), #[]⟩
def o272_3 : Obj := ⟨(.type "getset_descriptor"), .none, (.fields #[(.str "__weakref__" 526), (.ref 270), (.builtin "ExceptionGroup.__weakref__"), .none]), #[]⟩
def o273_3 : Obj := ⟨(.type "super"), .none, (.fields #[(.ref 270), (.ref 270), (.ref 270)]), #[]⟩
def o274_3 : Obj := ⟨(.type "builtin_function_or_method"), .none, (.fields #[(.builtin "object.__init_subclass__"), (.ref 270)]), #[]⟩
def T3 (P : Params) : BT := (.node (boot_o_0 P) (.node (boot_o_1 P) (.node (o3_3 P) (.node (boot_o_7 P) (.node o11_1 (.node o31_3 (.node o63_3 (.node o127_3 (.node o12_1 .nil .nil) .nil) (.node o191_3 .nil .nil)) (.node o95_3 (.node o159_3 .nil .nil) (.node o223_3 .nil .nil))) (.node o11_1 (.node (o79_3 P) (.node o12_1 (.node o271_3 .nil .nil) .nil) (.node o207_3 .nil .nil)) (.node o111_3 (.node o175_3 .nil .nil) (.node o239_3 .nil .nil)))) (.node o23_3 (.node o11_1 (.node o71_3 (.node o23_3 (.node o263_3 .nil .nil) .nil) (.node o199_3 .nil .nil)) (.node o103_3 (.node o167_3 .nil .nil) (.node o231_3 .nil .nil))) (.node o55_3 (.node o12_1 (.node o151_3 .nil .nil) (.node o215_3 .nil .nil)) (.node o119_3 (.node o183_3 .nil .nil) (.node o11_1 .nil .nil))))) (.node o11_1 (.node o19_3 (.node o35_3 (.node o67_3 (.node o131_3 (.node o259_3 .nil .nil) .nil) (.node o11_1 .nil .nil)) (.node o99_3 (.node o11_1 .nil .nil) (.node o12_1 .nil .nil))) (.node o51_3 (.node o83_3 (.node o147_3 .nil .nil) (.node o12_1 .nil .nil)) (.node o115_3 (.node o179_3 .nil .nil) (.node o11_1 .nil .nil)))) (.node o27_3 (.node o43_3 (.node o75_3 (.node o139_3 (.node o267_3 .nil .nil) .nil) (.node o12_1 .nil .nil)) (.node o107_3 (.node o171_3 .nil .nil) (.node o235_3 .nil .nil))) (.node o59_3 (.node o91_3 (.node o155_3 .nil .nil) (.node o12_1 .nil .nil)) (.node o123_3 (.node o187_3 .nil .nil) (.node o251_3 .nil .nil)))))) (.node (boot_o_5 P) (.node (boot_o_9 P) (.node o17_3 (.node o33_3 (.node o65_3 (.node o11_1 (.node o11_1 .nil .nil) .nil) (.node o193_3 .nil .nil)) (.node o97_3 (.node o161_3 .nil .nil) (.node o225_3 .nil .nil))) (.node o49_3 (.node o11_1 (.node o11_1 (.node o273_3 .nil .nil) .nil) (.node o209_3 .nil .nil)) (.node o12_1 (.node o11_1 .nil .nil) (.node o12_1 .nil .nil)))) (.node o11_1 (.node o41_3 (.node (o73_3 P) (.node o11_1 (.node o265_3 .nil .nil) .nil) (.node o201_3 .nil .nil)) (.node o11_1 (.node o169_3 .nil .nil) (.node o11_1 .nil .nil))) (.node o23_3 (.node o11_1 (.node o153_3 .nil .nil) (.node o217_3 .nil .nil)) (.node o121_3 (.node o12_1 .nil .nil) (.node o249_3 .nil .nil))))) (.node o13_1 (.node o21_3 (.node (o37_3 P) (.node o69_3 (.node o133_3 (.node o11_1 .nil .nil) .nil) (.node o197_3 .nil .nil)) (.node o12_1 (.node (o165_3 P) .nil .nil) (.node o11_1 .nil .nil))) (.node o53_3 (.node o85_3 (.node o11_1 .nil .nil) (.node o11_1 .nil .nil)) (.node o11_1 (.node o181_3 .nil .nil) (.node o245_3 .nil .nil)))) (.node o11_1 (.node o12_1 (.node o77_3 (.node o141_3 (.node (o269_3 P) .nil .nil) .nil) (.node o11_1 .nil .nil)) (.node o109_3 (.node o12_1 .nil .nil) (.node o237_3 .nil .nil))) (.node o61_3 (.node o93_3 (.node (o157_3 P) .nil .nil) (.node o11_1 .nil .nil)) (.node o12_1 (.node o11_1 .nil .nil) (.node o253_3 .nil .nil))))))) (.node (o2_3 P) (.node (boot_o_4 P) (.node (boot_o_8 P) (.node o12_1 (.node o32_3 (.node o64_3 (.node o128_3 (.node o256_3 .nil .nil) .nil) (.node o192_3 .nil .nil)) (.node o96_3 (.node o160_3 .nil .nil) (.node o224_3 .nil .nil))) (.node o48_3 (.node o80_3 (.node o144_3 (.node o272_3 .nil .nil) .nil) (.node o208_3 .nil .nil)) (.node o11_1 (.node o176_3 .nil .nil) (.node o11_1 .nil .nil)))) (.node (o24_3 P) (.node o40_3 (.node o72_3 (.node (o136_3 P) (.node o11_1 .nil .nil) .nil) (.node o200_3 .nil .nil)) (.node o104_3 (.node o168_3 .nil .nil) (.node o232_3 .nil .nil))) (.node o35_3 (.node o88_3 (.node o11_1 .nil .nil) (.node o216_3 .nil .nil)) (.node o11_1 (.node o11_1 .nil .nil) (.node o12_1 .nil .nil))))) (.node o12_3 (.node o20_3 (.node o23_3 (.node o11_1 (.node o132_3 (.node o260_3 .nil .nil) .nil) (.node o12_1 .nil .nil)) (.node o11_1 (.node o23_3 .nil .nil) (.node o228_3 .nil .nil))) (.node (o52_3 P) (.node o84_3 (.node o148_3 .nil .nil) (.node o212_3 .nil .nil)) (.node o116_3 (.node o180_3 .nil .nil) (.node o244_3 .nil .nil)))) (.node o28_3 (.node o44_3 (.node o76_3 (.node o140_3 (.node o268_3 .nil .nil) .nil) (.node o204_3 .nil .nil)) (.node o11_1 (.node o11_1 .nil .nil) (.node o11_1 .nil .nil))) (.node o11_1 (.node o92_3 (.node o156_3 .nil .nil) (.node o220_3 .nil .nil)) (.node o11_1 (.node o188_3 .nil .nil) (.node o252_3 .nil .nil)))))) (.node (boot_o_6 P) (.node (boot_o_10 P) (.node o11_1 (.node o34_3 (.node o12_1 (.node o12_1 (.node o258_3 .nil .nil) .nil) (.node o194_3 .nil .nil)) (.node o98_3 (.node o162_3 .nil .nil) (.node o11_1 .nil .nil))) (.node o50_3 (.node o82_3 (.node o146_3 (.node o274_3 .nil .nil) .nil) (.node o11_1 .nil .nil)) (.node o114_3 (.node o12_1 .nil .nil) (.node o242_3 .nil .nil)))) (.node o12_1 (.node o42_3 (.node o74_3 (.node o138_3 (.node o266_3 .nil .nil) .nil) (.node o11_1 .nil .nil)) (.node o12_1 (.node o11_1 .nil .nil) (.node o12_1 .nil .nil))) (.node (o58_3 P) (.node o90_3 (.node o154_3 .nil .nil) (.node o11_1 .nil .nil)) (.node o122_3 (.node o186_3 .nil .nil) (.node o11_1 .nil .nil))))) (.node o14_1 (.node o22_3 (.node o38_3 (.node o70_3 (.node o11_1 (.node o12_1 .nil .nil) .nil) (.node o11_1 .nil .nil)) (.node o102_3 (.node o11_1 .nil .nil) (.node o230_3 .nil .nil))) (.node o54_3 (.node o86_3 (.node o12_1 .nil .nil) (.node o214_3 .nil .nil)) (.node o12_1 (.node o11_1 .nil .nil) (.node o246_3 .nil .nil)))) (.node (o30_3 P) (.node o46_3 (.node o23_3 (.node o11_1 (.node o270_3 .nil .nil) .nil) (.node o206_3 .nil .nil)) (.node o110_3 (.node o174_3 .nil .nil) (.node o238_3 .nil .nil))) (.node o62_3 (.node (o94_3 P) (.node o158_3 .nil .nil) (.node o222_3 .nil .nil)) (.node o126_3 (.node o12_1 .nil .nil) (.node o11_1 .nil .nil))))))))
def S3 (w : World) (os : OsState) : SharedT := ⟨T3 w.params, 275, ⟨[], [], [], 0, [], [], .false, #[], [], 0, .false, .false, .false, 0, [2000, 10, 10], .false, 0, .true, [], [], 0, .false⟩, #[], ⟨0, 0, 0, 0⟩, 531, os⟩
def o3_4 (P : Params) : Obj := ⟨(.type "dict"), .none, (.dict #[⟨(PySem.PyData.keyHash P "__name__"), (.str "__name__" 165), (.str "law_stepsback_k54_tasks_refused" 531)⟩, ⟨(PySem.PyData.keyHash P "__doc__"), (.str "__doc__" 166), .none⟩, ⟨(PySem.PyData.keyHash P "__package__"), (.str "__package__" 167), .none⟩, ⟨(PySem.PyData.keyHash P "__loader__"), (.str "__loader__" 168), (.builtin "__main__.__loader__#opaque")⟩, ⟨(PySem.PyData.keyHash P "__spec__"), (.str "__spec__" 169), .none⟩, ⟨(PySem.PyData.keyHash P "__annotations__"), (.str "__annotations__" 170), (.ref 6)⟩, ⟨(PySem.PyData.keyHash P "__builtins__"), (.str "__builtins__" 171), (.ref 4)⟩, ⟨(PySem.PyData.keyHash P "__file__"), (.str "__file__" 173), (.str "/claim/cut.py" 172)⟩, ⟨(PySem.PyData.keyHash P "__cached__"), (.str "__cached__" 174), .none⟩, ⟨(PySem.PyData.keyHash P "_wall"), (.str "_wall" 193), (.ref 21)⟩, ⟨(PySem.PyData.keyHash P "StepError"), (.str "StepError" 213), (.ref 31)⟩, ⟨(PySem.PyData.keyHash P "InvalidRow"), (.str "InvalidRow" 240), (.ref 53)⟩, ⟨(PySem.PyData.keyHash P "InvalidTask"), (.str "InvalidTask" 267), (.ref 74)⟩, ⟨(PySem.PyData.keyHash P "NoName"), (.str "NoName" 298), (.ref 95)⟩, ⟨(PySem.PyData.keyHash P "SMALL"), (.str "SMALL" 302), (.str "abcdefghijklmnopqrstuvwxyz" 301)⟩, ⟨(PySem.PyData.keyHash P "BARRED"), (.str "BARRED" 316), (.ref 99)⟩, ⟨(PySem.PyData.keyHash P "is_name"), (.str "is_name" 322), (.ref 104)⟩, ⟨(PySem.PyData.keyHash P "is_sequence"), (.str "is_sequence" 329), (.ref 111)⟩, ⟨(PySem.PyData.keyHash P "joined_with"), (.str "joined_with" 337), (.ref 116)⟩, ⟨(PySem.PyData.keyHash P "closed"), (.str "closed" 350), (.ref 123)⟩, ⟨(PySem.PyData.keyHash P "has_ring"), (.str "has_ring" 356), (.ref 128)⟩, ⟨(PySem.PyData.keyHash P "is_need"), (.str "is_need" 362), (.ref 133)⟩, ⟨(PySem.PyData.keyHash P "Task"), (.str "Task" 404), (.ref 158)⟩, ⟨(PySem.PyData.keyHash P "Tasks"), (.str "Tasks" 530), (.ref 270)⟩, ⟨(PySem.PyData.keyHash P "_law_feed"), (.str "_law_feed" 538), (.ref 279)⟩, ⟨(PySem.PyData.keyHash P "_law_take"), (.str "_law_take" 548), (.ref 286)⟩, ⟨(PySem.PyData.keyHash P "_law_pick"), (.str "_law_pick" 556), (.ref 293)⟩, ⟨(PySem.PyData.keyHash P "_law_mixed"), (.str "_law_mixed" 566), (.ref 300)⟩, ⟨(PySem.PyData.keyHash P "_law_some_tasks"), (.str "_law_some_tasks" 572), (.ref 305)⟩, ⟨(PySem.PyData.keyHash P "_law_word"), (.str "_law_word" 581), (.ref 312)⟩, ⟨(PySem.PyData.keyHash P "_law_is_bool"), (.str "_law_is_bool" 588), (.ref 319)⟩, ⟨(PySem.PyData.keyHash P "_law_is_name"), (.str "_law_is_name" 594), (.ref 324)⟩, ⟨(PySem.PyData.keyHash P "_law_task_due"), (.str "_law_task_due" 603), (.ref 331)⟩] 33), #[]⟩
def o12_4 : Obj := ⟨.none, .none, (.fields #[(.int 1 0), (.int 0 0), (.ref 20), (.int 5 0), (.int 0 0), (.ref 27), (.int 7 0), (.int 0 0), (.ref 41), (.int 12 0), (.int 0 0), (.ref 62), (.int 17 0), (.int 0 0), (.ref 83), (.int 25 0), (.int 0 0), (.ref 103), (.int 29 0), (.int 0 0), (.ref 110), (.int 32 0), (.int 0 0), (.ref 115), (.int 35 0), (.int 0 0), (.ref 122), (.int 49 0), (.int 0 0), (.ref 127), (.int 51 0), (.int 0 0), (.ref 132), (.int 55 0), (.int 0 0), (.ref 139), (.int 72 0), (.int 0 0), (.ref 168), (.int 143 0), (.int 0 0), (.ref 278), (.int 149 0), (.int 0 0), (.ref 285), (.int 159 0), (.int 0 0), (.ref 292), (.int 161 0), (.int 0 0), (.ref 299), (.int 166 0), (.int 0 0), (.ref 304), (.int 175 0), (.int 0 0), (.ref 311), (.int 182 0), (.int 0 0), (.ref 318), (.int 184 0), (.int 0 0), (.ref 323), (.int 189 0), (.int 0 0), (.ref 330)]), #[]⟩
def o277_4 : Obj := ⟨.none, .none, (.func ⟨"_law_feed", "_law_feed", (defArgs (top 19)), (.stmts (defBody (top 19))), (defScope (top 19)), 0, [], .none, .none, .none, .none, .none, .none, .none, 0⟩), #[]⟩
def o278_4 : Obj := ⟨(.type "code"), .none, (.fields #[(.str "_law_feed" 533), (.str "_law_feed" 534), (.str "/claim/cut.py" 535), (.int 143 0), (.int 2 0), (.int 0 0), (.int 0 0), (.int 3 0), (.ref 275), (.bool .true), (.int 181 0), (.ref 276), .none, .none, .none, (.ref 277), (.int 536 0), (.int 143 0), (.str "/claim/cut.py" 537)]), #[]⟩
def o279_4 : Obj := ⟨(.type "function"), .none, (.func ⟨"_law_feed", "_law_feed", (defArgs (top 19)), (.stmts (defBody (top 19))), (defScope (top 19)), 3, [], .none, .none, .none, (.str "law_stepsback_k54_tasks_refused" 531), .none, (.ref 278), .none, 0⟩), #[]⟩
def o282_4 : Obj := ⟨(.type "tuple"), .none, (.seq #[(.str "_law_box" 542), (.str "_law_wide" 543), (.str "_law_great" 544), (.str "_law_cell" 545)] 0), #[]⟩
def o284_4 : Obj := ⟨.none, .none, (.func ⟨"_law_take", "_law_take", (defArgs (top 20)), (.stmts (defBody (top 20))), (defScope (top 20)), 0, [], .none, .none, .none, .none, .none, .none, .none, 0⟩), #[]⟩
def o285_4 : Obj := ⟨(.type "code"), .none, (.fields #[(.str "_law_take" 539), (.str "_law_take" 540), (.str "/claim/cut.py" 541), (.int 149 0), (.int 2 0), (.int 0 0), (.int 0 0), (.int 3 0), (.ref 280), (.bool .true), (.int 181 0), (.ref 281), .none, (.ref 282), (.ref 283), (.ref 284), (.int 546 0), (.int 149 0), (.str "/claim/cut.py" 547)]), #[]⟩
def o286_4 : Obj := ⟨(.type "function"), .none, (.func ⟨"_law_take", "_law_take", (defArgs (top 20)), (.stmts (defBody (top 20))), (defScope (top 20)), 3, [], .none, .none, .none, (.str "law_stepsback_k54_tasks_refused" 531), .none, (.ref 285), .none, 0⟩), #[]⟩
def o289_4 : Obj := ⟨(.type "tuple"), .none, (.seq #[(.str "_law_box" 552), (.str "_law_some" 553)] 0), #[]⟩
def o291_4 : Obj := ⟨.none, .none, (.func ⟨"_law_pick", "_law_pick", (defArgs (top 21)), (.stmts (defBody (top 21))), (defScope (top 21)), 0, [], .none, .none, .none, .none, .none, .none, .none, 0⟩), #[]⟩
def o292_4 : Obj := ⟨(.type "code"), .none, (.fields #[(.str "_law_pick" 549), (.str "_law_pick" 550), (.str "/claim/cut.py" 551), (.int 159 0), (.int 2 0), (.int 0 0), (.int 0 0), (.int 3 0), (.ref 287), (.bool .true), (.int 181 0), (.ref 288), .none, (.ref 289), (.ref 290), (.ref 291), (.int 554 0), (.int 159 0), (.str "/claim/cut.py" 555)]), #[]⟩
def o293_4 : Obj := ⟨(.type "function"), .none, (.func ⟨"_law_pick", "_law_pick", (defArgs (top 21)), (.stmts (defBody (top 21))), (defScope (top 21)), 3, [], .none, .none, .none, (.str "law_stepsback_k54_tasks_refused" 531), .none, (.ref 292), .none, 0⟩), #[]⟩
def o296_4 : Obj := ⟨(.type "tuple"), .none, (.seq #[(.str "_law_box" 560), (.str "_law_some" 561), (.str "_law_left" 562), (.str "_law_found" 563)] 0), #[]⟩
def o298_4 : Obj := ⟨.none, .none, (.func ⟨"_law_mixed", "_law_mixed", (defArgs (top 22)), (.stmts (defBody (top 22))), (defScope (top 22)), 0, [], .none, .none, .none, .none, .none, .none, .none, 0⟩), #[]⟩
def o299_4 : Obj := ⟨(.type "code"), .none, (.fields #[(.str "_law_mixed" 557), (.str "_law_mixed" 558), (.str "/claim/cut.py" 559), (.int 161 0), (.int 2 0), (.int 0 0), (.int 0 0), (.int 3 0), (.ref 294), (.bool .true), (.int 181 0), (.ref 295), .none, (.ref 296), (.ref 297), (.ref 298), (.int 564 0), (.int 161 0), (.str "/claim/cut.py" 565)]), #[]⟩
def o300_4 : Obj := ⟨(.type "function"), .none, (.func ⟨"_law_mixed", "_law_mixed", (defArgs (top 22)), (.stmts (defBody (top 22))), (defScope (top 22)), 3, [], .none, .none, .none, (.str "law_stepsback_k54_tasks_refused" 531), .none, (.ref 299), .none, 0⟩), #[]⟩
def o303_4 : Obj := ⟨.none, .none, (.func ⟨"_law_some_tasks", "_law_some_tasks", (defArgs (top 23)), (.stmts (defBody (top 23))), (defScope (top 23)), 0, [], .none, .none, .none, .none, .none, .none, .none, 0⟩), #[]⟩
def o304_4 : Obj := ⟨(.type "code"), .none, (.fields #[(.str "_law_some_tasks" 567), (.str "_law_some_tasks" 568), (.str "/claim/cut.py" 569), (.int 166 0), (.int 2 0), (.int 0 0), (.int 0 0), (.int 3 0), (.ref 301), (.bool .true), (.int 181 0), (.ref 302), .none, .none, .none, (.ref 303), (.int 570 0), (.int 166 0), (.str "/claim/cut.py" 571)]), #[]⟩
def o305_4 : Obj := ⟨(.type "function"), .none, (.func ⟨"_law_some_tasks", "_law_some_tasks", (defArgs (top 23)), (.stmts (defBody (top 23))), (defScope (top 23)), 3, [], .none, .none, .none, (.str "law_stepsback_k54_tasks_refused" 531), .none, (.ref 304), .none, 0⟩), #[]⟩
def o308_4 : Obj := ⟨(.type "tuple"), .none, (.seq #[(.str "_law_work" 576), (.str "_law_found" 577), (.str "e" 578)] 0), #[]⟩
def o310_4 : Obj := ⟨.none, .none, (.func ⟨"_law_word", "_law_word", (defArgs (top 24)), (.stmts (defBody (top 24))), (defScope (top 24)), 0, [], .none, .none, .none, .none, .none, .none, .none, 0⟩), #[]⟩
def o311_4 : Obj := ⟨(.type "code"), .none, (.fields #[(.str "_law_word" 573), (.str "_law_word" 574), (.str "/claim/cut.py" 575), (.int 175 0), (.int 1 0), (.int 0 0), (.int 0 0), (.int 3 0), (.ref 306), (.bool .true), (.int 181 0), (.ref 307), .none, (.ref 308), (.ref 309), (.ref 310), (.int 579 0), (.int 175 0), (.str "/claim/cut.py" 580)]), #[]⟩
def o312_4 : Obj := ⟨(.type "function"), .none, (.func ⟨"_law_word", "_law_word", (defArgs (top 24)), (.stmts (defBody (top 24))), (defScope (top 24)), 3, [], .none, .none, .none, (.str "law_stepsback_k54_tasks_refused" 531), .none, (.ref 311), .none, 0⟩), #[]⟩
def o315_4 : Obj := ⟨(.type "tuple"), .none, (.seq #[(.str "_law_value" 585)] 0), #[]⟩
def o317_4 : Obj := ⟨.none, .none, (.func ⟨"_law_is_bool", "_law_is_bool", (defArgs (top 25)), (.stmts (defBody (top 25))), (defScope (top 25)), 0, [], .none, .none, .none, .none, .none, .none, .none, 0⟩), #[]⟩
def o318_4 : Obj := ⟨(.type "code"), .none, (.fields #[(.str "_law_is_bool" 582), (.str "_law_is_bool" 583), (.str "/claim/cut.py" 584), (.int 182 0), (.int 1 0), (.int 0 0), (.int 0 0), (.int 3 0), (.ref 313), (.bool .true), (.int 181 0), (.ref 314), .none, (.ref 315), (.ref 316), (.ref 317), (.int 586 0), (.int 182 0), (.str "/claim/cut.py" 587)]), #[]⟩
def o319_4 : Obj := ⟨(.type "function"), .none, (.func ⟨"_law_is_bool", "_law_is_bool", (defArgs (top 25)), (.stmts (defBody (top 25))), (defScope (top 25)), 3, [], .none, .none, .none, (.str "law_stepsback_k54_tasks_refused" 531), .none, (.ref 318), .none, 0⟩), #[]⟩
def o322_4 : Obj := ⟨.none, .none, (.func ⟨"_law_is_name", "_law_is_name", (defArgs (top 26)), (.stmts (defBody (top 26))), (defScope (top 26)), 0, [], .none, .none, .none, .none, .none, .none, .none, 0⟩), #[]⟩
def o323_4 : Obj := ⟨(.type "code"), .none, (.fields #[(.str "_law_is_name" 589), (.str "_law_is_name" 590), (.str "/claim/cut.py" 591), (.int 184 0), (.int 1 0), (.int 0 0), (.int 0 0), (.int 3 0), (.ref 320), (.bool .true), (.int 181 0), (.ref 321), .none, .none, .none, (.ref 322), (.int 592 0), (.int 184 0), (.str "/claim/cut.py" 593)]), #[]⟩
def o324_4 : Obj := ⟨(.type "function"), .none, (.func ⟨"_law_is_name", "_law_is_name", (defArgs (top 26)), (.stmts (defBody (top 26))), (defScope (top 26)), 3, [], .none, .none, .none, (.str "law_stepsback_k54_tasks_refused" 531), .none, (.ref 323), .none, 0⟩), #[]⟩
def o327_4 : Obj := ⟨(.type "tuple"), .none, (.seq #[(.str "_law_name" 598), (.str "_law_back" 599), (.str "_law_sure" 600)] 0), #[]⟩
def o329_4 : Obj := ⟨.none, .none, (.func ⟨"_law_task_due", "_law_task_due", (defArgs (top 27)), (.stmts (defBody (top 27))), (defScope (top 27)), 0, [], .none, .none, .none, .none, .none, .none, .none, 0⟩), #[]⟩
def o330_4 : Obj := ⟨(.type "code"), .none, (.fields #[(.str "_law_task_due" 595), (.str "_law_task_due" 596), (.str "/claim/cut.py" 597), (.int 189 0), (.int 3 0), (.int 0 0), (.int 0 0), (.int 3 0), (.ref 325), (.bool .true), (.int 181 0), (.ref 326), .none, (.ref 327), (.ref 328), (.ref 329), (.int 601 0), (.int 189 0), (.str "/claim/cut.py" 602)]), #[]⟩
def o331_4 : Obj := ⟨(.type "function"), .none, (.func ⟨"_law_task_due", "_law_task_due", (defArgs (top 27)), (.stmts (defBody (top 27))), (defScope (top 27)), 3, [], .none, .none, .none, (.str "law_stepsback_k54_tasks_refused" 531), .none, (.ref 330), .none, 0⟩), #[]⟩
def T4 (P : Params) : BT := (.node (boot_o_0 P) (.node (boot_o_1 P) (.node (o3_4 P) (.node (boot_o_7 P) (.node o11_1 (.node o31_3 (.node o63_3 (.node o127_3 (.node o12_1 .nil .nil) .nil) (.node o191_3 (.node o319_4 .nil .nil) .nil)) (.node o95_3 (.node o159_3 (.node o11_1 .nil .nil) .nil) (.node o223_3 .nil .nil))) (.node o11_1 (.node (o79_3 P) (.node o12_1 (.node o271_3 .nil .nil) .nil) (.node o207_3 .nil .nil)) (.node o111_3 (.node o175_3 (.node o303_4 .nil .nil) .nil) (.node o239_3 .nil .nil)))) (.node o23_3 (.node o11_1 (.node o71_3 (.node o23_3 (.node o263_3 .nil .nil) .nil) (.node o199_3 (.node o327_4 .nil .nil) .nil)) (.node o103_3 (.node o167_3 (.node o12_1 .nil .nil) .nil) (.node o231_3 .nil .nil))) (.node o55_3 (.node o12_1 (.node o151_3 (.node o279_4 .nil .nil) .nil) (.node o215_3 .nil .nil)) (.node o119_3 (.node o183_3 (.node o311_4 .nil .nil) .nil) (.node o11_1 .nil .nil))))) (.node o11_1 (.node o19_3 (.node o35_3 (.node o67_3 (.node o131_3 (.node o259_3 .nil .nil) .nil) (.node o11_1 (.node o323_4 .nil .nil) .nil)) (.node o99_3 (.node o11_1 (.node o291_4 .nil .nil) .nil) (.node o12_1 .nil .nil))) (.node o51_3 (.node o83_3 (.node o147_3 (.node o11_1 .nil .nil) .nil) (.node o12_1 .nil .nil)) (.node o115_3 (.node o179_3 (.node o12_1 .nil .nil) .nil) (.node o11_1 .nil .nil)))) (.node o27_3 (.node o43_3 (.node o75_3 (.node o139_3 (.node o267_3 .nil .nil) .nil) (.node o12_1 (.node o331_4 .nil .nil) .nil)) (.node o107_3 (.node o171_3 (.node o299_4 .nil .nil) .nil) (.node o235_3 .nil .nil))) (.node o59_3 (.node o91_3 (.node o155_3 (.node o11_1 .nil .nil) .nil) (.node o12_1 .nil .nil)) (.node o123_3 (.node o187_3 (.node o315_4 .nil .nil) .nil) (.node o251_3 .nil .nil)))))) (.node (boot_o_5 P) (.node (boot_o_9 P) (.node o17_3 (.node o33_3 (.node o65_3 (.node o11_1 (.node o11_1 .nil .nil) .nil) (.node o193_3 (.node o12_1 .nil .nil) .nil)) (.node o97_3 (.node o161_3 (.node o289_4 .nil .nil) .nil) (.node o225_3 .nil .nil))) (.node o49_3 (.node o11_1 (.node o11_1 (.node o273_3 .nil .nil) .nil) (.node o209_3 .nil .nil)) (.node o12_1 (.node o11_1 (.node o305_4 .nil .nil) .nil) (.node o12_1 .nil .nil)))) (.node o11_1 (.node o41_3 (.node (o73_3 P) (.node o11_1 (.node o265_3 .nil .nil) .nil) (.node o201_3 (.node o329_4 .nil .nil) .nil)) (.node o11_1 (.node o169_3 (.node o11_1 .nil .nil) .nil) (.node o11_1 .nil .nil))) (.node o23_3 (.node o11_1 (.node o153_3 (.node o12_1 .nil .nil) .nil) (.node o217_3 .nil .nil)) (.node o121_3 (.node o12_1 (.node o11_1 .nil .nil) .nil) (.node o249_3 .nil .nil))))) (.node o13_1 (.node o21_3 (.node (o37_3 P) (.node o69_3 (.node o133_3 (.node o11_1 .nil .nil) .nil) (.node o197_3 (.node o11_1 .nil .nil) .nil)) (.node o12_1 (.node (o165_3 P) (.node o293_4 .nil .nil) .nil) (.node o11_1 .nil .nil))) (.node o53_3 (.node o85_3 (.node o11_1 (.node o277_4 .nil .nil) .nil) (.node o11_1 .nil .nil)) (.node o11_1 (.node o181_3 (.node o11_1 .nil .nil) .nil) (.node o245_3 .nil .nil)))) (.node o11_1 (.node o12_1 (.node o77_3 (.node o141_3 (.node (o269_3 P) .nil .nil) .nil) (.node o11_1 .nil .nil)) (.node o109_3 (.node o12_1 (.node o11_1 .nil .nil) .nil) (.node o237_3 .nil .nil))) (.node o61_3 (.node o93_3 (.node (o157_3 P) (.node o285_4 .nil .nil) .nil) (.node o11_1 .nil .nil)) (.node o12_1 (.node o11_1 (.node o317_4 .nil .nil) .nil) (.node o253_3 .nil .nil))))))) (.node (o2_3 P) (.node (boot_o_4 P) (.node (boot_o_8 P) (.node o12_1 (.node o32_3 (.node o64_3 (.node o128_3 (.node o256_3 .nil .nil) .nil) (.node o192_3 (.node o11_1 .nil .nil) .nil)) (.node o96_3 (.node o160_3 (.node o12_1 .nil .nil) .nil) (.node o224_3 .nil .nil))) (.node o48_3 (.node o80_3 (.node o144_3 (.node o272_3 .nil .nil) .nil) (.node o208_3 .nil .nil)) (.node o11_1 (.node o176_3 (.node o304_4 .nil .nil) .nil) (.node o11_1 .nil .nil)))) (.node (o24_3 P) (.node o40_3 (.node o72_3 (.node (o136_3 P) (.node o11_1 .nil .nil) .nil) (.node o200_3 (.node o11_1 .nil .nil) .nil)) (.node o104_3 (.node o168_3 (.node o296_4 .nil .nil) .nil) (.node o232_3 .nil .nil))) (.node o35_3 (.node o88_3 (.node o11_1 (.node o11_1 .nil .nil) .nil) (.node o216_3 .nil .nil)) (.node o11_1 (.node o11_1 (.node o312_4 .nil .nil) .nil) (.node o12_1 .nil .nil))))) (.node o12_4 (.node o20_3 (.node o23_3 (.node o11_1 (.node o132_3 (.node o260_3 .nil .nil) .nil) (.node o12_1 (.node o324_4 .nil .nil) .nil)) (.node o11_1 (.node o23_3 (.node o292_4 .nil .nil) .nil) (.node o228_3 .nil .nil))) (.node (o52_3 P) (.node o84_3 (.node o148_3 (.node o12_1 .nil .nil) .nil) (.node o212_3 .nil .nil)) (.node o116_3 (.node o180_3 (.node o308_4 .nil .nil) .nil) (.node o244_3 .nil .nil)))) (.node o28_3 (.node o44_3 (.node o76_3 (.node o140_3 (.node o268_3 .nil .nil) .nil) (.node o204_3 .nil .nil)) (.node o11_1 (.node o11_1 (.node o300_4 .nil .nil) .nil) (.node o11_1 .nil .nil))) (.node o11_1 (.node o92_3 (.node o156_3 (.node o284_4 .nil .nil) .nil) (.node o220_3 .nil .nil)) (.node o11_1 (.node o188_3 (.node o11_1 .nil .nil) .nil) (.node o252_3 .nil .nil)))))) (.node (boot_o_6 P) (.node (boot_o_10 P) (.node o11_1 (.node o34_3 (.node o12_1 (.node o12_1 (.node o258_3 .nil .nil) .nil) (.node o194_3 (.node o322_4 .nil .nil) .nil)) (.node o98_3 (.node o162_3 (.node o11_1 .nil .nil) .nil) (.node o11_1 .nil .nil))) (.node o50_3 (.node o82_3 (.node o146_3 (.node o274_3 .nil .nil) .nil) (.node o11_1 .nil .nil)) (.node o114_3 (.node o12_1 (.node o11_1 .nil .nil) .nil) (.node o242_3 .nil .nil)))) (.node o12_1 (.node o42_3 (.node o74_3 (.node o138_3 (.node o266_3 .nil .nil) .nil) (.node o11_1 (.node o330_4 .nil .nil) .nil)) (.node o12_1 (.node o11_1 (.node o298_4 .nil .nil) .nil) (.node o12_1 .nil .nil))) (.node (o58_3 P) (.node o90_3 (.node o154_3 (.node o282_4 .nil .nil) .nil) (.node o11_1 .nil .nil)) (.node o122_3 (.node o186_3 (.node o12_1 .nil .nil) .nil) (.node o11_1 .nil .nil))))) (.node o14_1 (.node o22_3 (.node o38_3 (.node o70_3 (.node o11_1 (.node o12_1 .nil .nil) .nil) (.node o11_1 (.node o12_1 .nil .nil) .nil)) (.node o102_3 (.node o11_1 (.node o11_1 .nil .nil) .nil) (.node o230_3 .nil .nil))) (.node o54_3 (.node o86_3 (.node o12_1 (.node o278_4 .nil .nil) .nil) (.node o214_3 .nil .nil)) (.node o12_1 (.node o11_1 (.node o310_4 .nil .nil) .nil) (.node o246_3 .nil .nil)))) (.node (o30_3 P) (.node o46_3 (.node o23_3 (.node o11_1 (.node o270_3 .nil .nil) .nil) (.node o206_3 .nil .nil)) (.node o110_3 (.node o174_3 (.node o12_1 .nil .nil) .nil) (.node o238_3 .nil .nil))) (.node o62_3 (.node (o94_3 P) (.node o158_3 (.node o286_4 .nil .nil) .nil) (.node o222_3 .nil .nil)) (.node o126_3 (.node o12_1 (.node o318_4 .nil .nil) .nil) (.node o11_1 .nil .nil))))))))
def S4 (w : World) (os : OsState) : SharedT := ⟨T4 w.params, 332, ⟨[], [], [], 0, [], [], .false, #[], [], 0, .false, .false, .false, 0, [2000, 10, 10], .false, 0, .true, [], [], 0, .false⟩, #[], ⟨0, 0, 0, 0⟩, 604, os⟩
def o3_5 (P : Params) : Obj := ⟨(.type "dict"), .none, (.dict #[⟨(PySem.PyData.keyHash P "__name__"), (.str "__name__" 165), (.str "law_stepsback_k54_tasks_refused" 531)⟩, ⟨(PySem.PyData.keyHash P "__doc__"), (.str "__doc__" 166), .none⟩, ⟨(PySem.PyData.keyHash P "__package__"), (.str "__package__" 167), .none⟩, ⟨(PySem.PyData.keyHash P "__loader__"), (.str "__loader__" 168), (.builtin "__main__.__loader__#opaque")⟩, ⟨(PySem.PyData.keyHash P "__spec__"), (.str "__spec__" 169), .none⟩, ⟨(PySem.PyData.keyHash P "__annotations__"), (.str "__annotations__" 170), (.ref 6)⟩, ⟨(PySem.PyData.keyHash P "__builtins__"), (.str "__builtins__" 171), (.ref 4)⟩, ⟨(PySem.PyData.keyHash P "__file__"), (.str "__file__" 173), (.str "/claim/cut.py" 172)⟩, ⟨(PySem.PyData.keyHash P "__cached__"), (.str "__cached__" 174), .none⟩, ⟨(PySem.PyData.keyHash P "_wall"), (.str "_wall" 193), (.ref 21)⟩, ⟨(PySem.PyData.keyHash P "StepError"), (.str "StepError" 213), (.ref 31)⟩, ⟨(PySem.PyData.keyHash P "InvalidRow"), (.str "InvalidRow" 240), (.ref 53)⟩, ⟨(PySem.PyData.keyHash P "InvalidTask"), (.str "InvalidTask" 267), (.ref 74)⟩, ⟨(PySem.PyData.keyHash P "NoName"), (.str "NoName" 298), (.ref 95)⟩, ⟨(PySem.PyData.keyHash P "SMALL"), (.str "SMALL" 302), (.str "abcdefghijklmnopqrstuvwxyz" 301)⟩, ⟨(PySem.PyData.keyHash P "BARRED"), (.str "BARRED" 316), (.ref 99)⟩, ⟨(PySem.PyData.keyHash P "is_name"), (.str "is_name" 322), (.ref 104)⟩, ⟨(PySem.PyData.keyHash P "is_sequence"), (.str "is_sequence" 329), (.ref 111)⟩, ⟨(PySem.PyData.keyHash P "joined_with"), (.str "joined_with" 337), (.ref 116)⟩, ⟨(PySem.PyData.keyHash P "closed"), (.str "closed" 350), (.ref 123)⟩, ⟨(PySem.PyData.keyHash P "has_ring"), (.str "has_ring" 356), (.ref 128)⟩, ⟨(PySem.PyData.keyHash P "is_need"), (.str "is_need" 362), (.ref 133)⟩, ⟨(PySem.PyData.keyHash P "Task"), (.str "Task" 404), (.ref 158)⟩, ⟨(PySem.PyData.keyHash P "Tasks"), (.str "Tasks" 530), (.ref 270)⟩, ⟨(PySem.PyData.keyHash P "_law_feed"), (.str "_law_feed" 538), (.ref 279)⟩, ⟨(PySem.PyData.keyHash P "_law_take"), (.str "_law_take" 548), (.ref 286)⟩, ⟨(PySem.PyData.keyHash P "_law_pick"), (.str "_law_pick" 556), (.ref 293)⟩, ⟨(PySem.PyData.keyHash P "_law_mixed"), (.str "_law_mixed" 566), (.ref 300)⟩, ⟨(PySem.PyData.keyHash P "_law_some_tasks"), (.str "_law_some_tasks" 572), (.ref 305)⟩, ⟨(PySem.PyData.keyHash P "_law_word"), (.str "_law_word" 581), (.ref 312)⟩, ⟨(PySem.PyData.keyHash P "_law_is_bool"), (.str "_law_is_bool" 588), (.ref 319)⟩, ⟨(PySem.PyData.keyHash P "_law_is_name"), (.str "_law_is_name" 594), (.ref 324)⟩, ⟨(PySem.PyData.keyHash P "_law_task_due"), (.str "_law_task_due" 603), (.ref 331)⟩, ⟨(PySem.PyData.keyHash P "law"), (.str "law" 609), (.ref 336)⟩] 34), #[]⟩
def o12_5 : Obj := ⟨.none, .none, (.fields #[(.int 1 0), (.int 0 0), (.ref 20), (.int 5 0), (.int 0 0), (.ref 27), (.int 7 0), (.int 0 0), (.ref 41), (.int 12 0), (.int 0 0), (.ref 62), (.int 17 0), (.int 0 0), (.ref 83), (.int 25 0), (.int 0 0), (.ref 103), (.int 29 0), (.int 0 0), (.ref 110), (.int 32 0), (.int 0 0), (.ref 115), (.int 35 0), (.int 0 0), (.ref 122), (.int 49 0), (.int 0 0), (.ref 127), (.int 51 0), (.int 0 0), (.ref 132), (.int 55 0), (.int 0 0), (.ref 139), (.int 72 0), (.int 0 0), (.ref 168), (.int 143 0), (.int 0 0), (.ref 278), (.int 149 0), (.int 0 0), (.ref 285), (.int 159 0), (.int 0 0), (.ref 292), (.int 161 0), (.int 0 0), (.ref 299), (.int 166 0), (.int 0 0), (.ref 304), (.int 175 0), (.int 0 0), (.ref 311), (.int 182 0), (.int 0 0), (.ref 318), (.int 184 0), (.int 0 0), (.ref 323), (.int 189 0), (.int 0 0), (.ref 330), (.int 195 0), (.int 0 0), (.ref 335)]), #[]⟩
def o334_5 : Obj := ⟨.none, .none, (.func ⟨"law", "law", (defArgs (top 28)), (.stmts (defBody (top 28))), (defScope (top 28)), 0, [], .none, .none, .none, .none, .none, .none, .none, 0⟩), #[]⟩
def o335_5 : Obj := ⟨(.type "code"), .none, (.fields #[(.str "law" 604), (.str "law" 605), (.str "/claim/cut.py" 606), (.int 195 0), (.int 1 0), (.int 0 0), (.int 0 0), (.int 3 0), (.ref 332), (.bool .true), (.int 181 0), (.ref 333), .none, .none, .none, (.ref 334), (.int 607 0), (.int 195 0), (.str "/claim/cut.py" 608)]), #[]⟩
def o336_5 : Obj := ⟨(.type "function"), .none, (.func ⟨"law", "law", (defArgs (top 28)), (.stmts (defBody (top 28))), (defScope (top 28)), 3, [], .none, .none, .none, (.str "law_stepsback_k54_tasks_refused" 531), .none, (.ref 335), .none, 0⟩), #[]⟩
def T5 (P : Params) : BT := (.node (boot_o_0 P) (.node (boot_o_1 P) (.node (o3_5 P) (.node (boot_o_7 P) (.node o11_1 (.node o31_3 (.node o63_3 (.node o127_3 (.node o12_1 .nil .nil) .nil) (.node o191_3 (.node o319_4 .nil .nil) .nil)) (.node o95_3 (.node o159_3 (.node o11_1 .nil .nil) .nil) (.node o223_3 .nil .nil))) (.node o11_1 (.node (o79_3 P) (.node o12_1 (.node o271_3 .nil .nil) .nil) (.node o207_3 (.node o335_5 .nil .nil) .nil)) (.node o111_3 (.node o175_3 (.node o303_4 .nil .nil) .nil) (.node o239_3 .nil .nil)))) (.node o23_3 (.node o11_1 (.node o71_3 (.node o23_3 (.node o263_3 .nil .nil) .nil) (.node o199_3 (.node o327_4 .nil .nil) .nil)) (.node o103_3 (.node o167_3 (.node o12_1 .nil .nil) .nil) (.node o231_3 .nil .nil))) (.node o55_3 (.node o12_1 (.node o151_3 (.node o279_4 .nil .nil) .nil) (.node o215_3 .nil .nil)) (.node o119_3 (.node o183_3 (.node o311_4 .nil .nil) .nil) (.node o11_1 .nil .nil))))) (.node o11_1 (.node o19_3 (.node o35_3 (.node o67_3 (.node o131_3 (.node o259_3 .nil .nil) .nil) (.node o11_1 (.node o323_4 .nil .nil) .nil)) (.node o99_3 (.node o11_1 (.node o291_4 .nil .nil) .nil) (.node o12_1 .nil .nil))) (.node o51_3 (.node o83_3 (.node o147_3 (.node o11_1 .nil .nil) .nil) (.node o12_1 .nil .nil)) (.node o115_3 (.node o179_3 (.node o12_1 .nil .nil) .nil) (.node o11_1 .nil .nil)))) (.node o27_3 (.node o43_3 (.node o75_3 (.node o139_3 (.node o267_3 .nil .nil) .nil) (.node o12_1 (.node o331_4 .nil .nil) .nil)) (.node o107_3 (.node o171_3 (.node o299_4 .nil .nil) .nil) (.node o235_3 .nil .nil))) (.node o59_3 (.node o91_3 (.node o155_3 (.node o11_1 .nil .nil) .nil) (.node o12_1 .nil .nil)) (.node o123_3 (.node o187_3 (.node o315_4 .nil .nil) .nil) (.node o251_3 .nil .nil)))))) (.node (boot_o_5 P) (.node (boot_o_9 P) (.node o17_3 (.node o33_3 (.node o65_3 (.node o11_1 (.node o11_1 .nil .nil) .nil) (.node o193_3 (.node o12_1 .nil .nil) .nil)) (.node o97_3 (.node o161_3 (.node o289_4 .nil .nil) .nil) (.node o225_3 .nil .nil))) (.node o49_3 (.node o11_1 (.node o11_1 (.node o273_3 .nil .nil) .nil) (.node o209_3 .nil .nil)) (.node o12_1 (.node o11_1 (.node o305_4 .nil .nil) .nil) (.node o12_1 .nil .nil)))) (.node o11_1 (.node o41_3 (.node (o73_3 P) (.node o11_1 (.node o265_3 .nil .nil) .nil) (.node o201_3 (.node o329_4 .nil .nil) .nil)) (.node o11_1 (.node o169_3 (.node o11_1 .nil .nil) .nil) (.node o11_1 .nil .nil))) (.node o23_3 (.node o11_1 (.node o153_3 (.node o12_1 .nil .nil) .nil) (.node o217_3 .nil .nil)) (.node o121_3 (.node o12_1 (.node o11_1 .nil .nil) .nil) (.node o249_3 .nil .nil))))) (.node o13_1 (.node o21_3 (.node (o37_3 P) (.node o69_3 (.node o133_3 (.node o11_1 .nil .nil) .nil) (.node o197_3 (.node o11_1 .nil .nil) .nil)) (.node o12_1 (.node (o165_3 P) (.node o293_4 .nil .nil) .nil) (.node o11_1 .nil .nil))) (.node o53_3 (.node o85_3 (.node o11_1 (.node o277_4 .nil .nil) .nil) (.node o11_1 .nil .nil)) (.node o11_1 (.node o181_3 (.node o11_1 .nil .nil) .nil) (.node o245_3 .nil .nil)))) (.node o11_1 (.node o12_1 (.node o77_3 (.node o141_3 (.node (o269_3 P) .nil .nil) .nil) (.node o11_1 (.node o12_1 .nil .nil) .nil)) (.node o109_3 (.node o12_1 (.node o11_1 .nil .nil) .nil) (.node o237_3 .nil .nil))) (.node o61_3 (.node o93_3 (.node (o157_3 P) (.node o285_4 .nil .nil) .nil) (.node o11_1 .nil .nil)) (.node o12_1 (.node o11_1 (.node o317_4 .nil .nil) .nil) (.node o253_3 .nil .nil))))))) (.node (o2_3 P) (.node (boot_o_4 P) (.node (boot_o_8 P) (.node o12_1 (.node o32_3 (.node o64_3 (.node o128_3 (.node o256_3 .nil .nil) .nil) (.node o192_3 (.node o11_1 .nil .nil) .nil)) (.node o96_3 (.node o160_3 (.node o12_1 .nil .nil) .nil) (.node o224_3 .nil .nil))) (.node o48_3 (.node o80_3 (.node o144_3 (.node o272_3 .nil .nil) .nil) (.node o208_3 (.node o336_5 .nil .nil) .nil)) (.node o11_1 (.node o176_3 (.node o304_4 .nil .nil) .nil) (.node o11_1 .nil .nil)))) (.node (o24_3 P) (.node o40_3 (.node o72_3 (.node (o136_3 P) (.node o11_1 .nil .nil) .nil) (.node o200_3 (.node o11_1 .nil .nil) .nil)) (.node o104_3 (.node o168_3 (.node o296_4 .nil .nil) .nil) (.node o232_3 .nil .nil))) (.node o35_3 (.node o88_3 (.node o11_1 (.node o11_1 .nil .nil) .nil) (.node o216_3 .nil .nil)) (.node o11_1 (.node o11_1 (.node o312_4 .nil .nil) .nil) (.node o12_1 .nil .nil))))) (.node o12_5 (.node o20_3 (.node o23_3 (.node o11_1 (.node o132_3 (.node o260_3 .nil .nil) .nil) (.node o12_1 (.node o324_4 .nil .nil) .nil)) (.node o11_1 (.node o23_3 (.node o292_4 .nil .nil) .nil) (.node o228_3 .nil .nil))) (.node (o52_3 P) (.node o84_3 (.node o148_3 (.node o12_1 .nil .nil) .nil) (.node o212_3 .nil .nil)) (.node o116_3 (.node o180_3 (.node o308_4 .nil .nil) .nil) (.node o244_3 .nil .nil)))) (.node o28_3 (.node o44_3 (.node o76_3 (.node o140_3 (.node o268_3 .nil .nil) .nil) (.node o204_3 (.node o11_1 .nil .nil) .nil)) (.node o11_1 (.node o11_1 (.node o300_4 .nil .nil) .nil) (.node o11_1 .nil .nil))) (.node o11_1 (.node o92_3 (.node o156_3 (.node o284_4 .nil .nil) .nil) (.node o220_3 .nil .nil)) (.node o11_1 (.node o188_3 (.node o11_1 .nil .nil) .nil) (.node o252_3 .nil .nil)))))) (.node (boot_o_6 P) (.node (boot_o_10 P) (.node o11_1 (.node o34_3 (.node o12_1 (.node o12_1 (.node o258_3 .nil .nil) .nil) (.node o194_3 (.node o322_4 .nil .nil) .nil)) (.node o98_3 (.node o162_3 (.node o11_1 .nil .nil) .nil) (.node o11_1 .nil .nil))) (.node o50_3 (.node o82_3 (.node o146_3 (.node o274_3 .nil .nil) .nil) (.node o11_1 .nil .nil)) (.node o114_3 (.node o12_1 (.node o11_1 .nil .nil) .nil) (.node o242_3 .nil .nil)))) (.node o12_1 (.node o42_3 (.node o74_3 (.node o138_3 (.node o266_3 .nil .nil) .nil) (.node o11_1 (.node o330_4 .nil .nil) .nil)) (.node o12_1 (.node o11_1 (.node o298_4 .nil .nil) .nil) (.node o12_1 .nil .nil))) (.node (o58_3 P) (.node o90_3 (.node o154_3 (.node o282_4 .nil .nil) .nil) (.node o11_1 .nil .nil)) (.node o122_3 (.node o186_3 (.node o12_1 .nil .nil) .nil) (.node o11_1 .nil .nil))))) (.node o14_1 (.node o22_3 (.node o38_3 (.node o70_3 (.node o11_1 (.node o12_1 .nil .nil) .nil) (.node o11_1 (.node o12_1 .nil .nil) .nil)) (.node o102_3 (.node o11_1 (.node o11_1 .nil .nil) .nil) (.node o230_3 .nil .nil))) (.node o54_3 (.node o86_3 (.node o12_1 (.node o278_4 .nil .nil) .nil) (.node o214_3 .nil .nil)) (.node o12_1 (.node o11_1 (.node o310_4 .nil .nil) .nil) (.node o246_3 .nil .nil)))) (.node (o30_3 P) (.node o46_3 (.node o23_3 (.node o11_1 (.node o270_3 .nil .nil) .nil) (.node o206_3 (.node o334_5 .nil .nil) .nil)) (.node o110_3 (.node o174_3 (.node o12_1 .nil .nil) .nil) (.node o238_3 .nil .nil))) (.node o62_3 (.node (o94_3 P) (.node o158_3 (.node o286_4 .nil .nil) .nil) (.node o222_3 .nil .nil)) (.node o126_3 (.node o12_1 (.node o318_4 .nil .nil) .nil) (.node o11_1 .nil .nil))))))))
def S5 (w : World) (os : OsState) : SharedT := ⟨T5 w.params, 337, ⟨[], [], [], 0, [], [], .false, #[], [], 0, .false, .false, .false, 0, [2000, 10, 10], .false, 0, .true, [], [], 0, .false⟩, #[], ⟨0, 0, 0, 0⟩, 610, os⟩
abbrev n0 : Nat := 11
def ann : Option Value := (.some (.ref 6))
def sBd : List Stmt := behindTheImports R.prog
def sCd : Code := .body sBd sEnv
def pF : Pos := ⟨0, 0, 0, 0⟩
theorem r_boot (w : World) : HandSHeadRun.putAll (boot_heap w.params).objs.toList .nil 0 = some (T0 w.params, n0) := by kernel_rfl
theorem r_ann (w : World) : HandSHeadRun.bootAnn w = ann := by kernel_rfl
theorem r_pre (w : World) (os : OsState) : goK (stQ R.prog w) n0 ann 12 (S0 w os) (topStub R.prog) = some (S1 w os, ⟨HandSHeadRun.denQ HandSHeadRun.tabQ (.body sBd sEnv), sCd, ⟨0, 0, 0, 0⟩, [topFrame pF]⟩) := by kernel_rfl
theorem r_block (w : World) (os : OsState) : goS (stQ R.prog w) n0 ann 1 (S1 w os) (thB sBd sEnv sCd ⟨0, 0, 0, 0⟩ pF) = some (.next, S2 w os, sCd, ⟨0, 0, 0, 0⟩) := by kernel_rfl
theorem r_2 (w : World) (os : OsState) : goS (stQ R.prog w) n0 ann 2331 (S2 w os) (thP ((sBd).take 18) sEnv sCd ⟨0, 0, 0, 0⟩ pF) = some (.next, S3 w os, sCd, ⟨72, 0, 141, 49⟩) := by kernel_rfl
theorem r_3 (w : World) (os : OsState) : goS (stQ R.prog w) n0 ann 273 (S3 w os) (thP (((sBd).drop 18).take 10) sEnv sCd ⟨72, 0, 141, 49⟩ pF) = some (.next, S4 w os, sCd, ⟨189, 0, 194, 56⟩) := by kernel_rfl
theorem r_end (w : World) (os : OsState) : HandSHeadRun.goF (stQ R.prog w) n0 ann 127 (S4 w os) (thR (((sBd).drop 18).drop 10) sEnv sCd ⟨189, 0, 194, 56⟩ pF) = some (S5 w os) := by kernel_rfl
theorem l_1 (w : World) (os : OsState) : HandSHeadRun.looksF R.prog (boot_heap w.params) (S5 w os).abs = true := by kernel_rfl
theorem l_2 (w : World) (os : OsState) : HandSHeadRun.seenQ qv nms (importedModules R.prog.main.body) (fun s => xlAt qv [] s && recOk R.toRowW.records s) (S5 w os).abs = openGood qv nms := by kernel_rfl
def KT : Addr := 333
def KL (P : Params) : PySem.W.Frag := [(3, (o3_5 P)), (6, (boot_o_6 P)), (4, (boot_o_4 P)), (21, o21_3), (31, o31_3), (53, o53_3), (74, o74_3), (95, o95_3), (99, o99_3), (104, o104_3), (111, o111_3), (116, o116_3), (123, o123_3), (128, o128_3), (133, o133_3), (158, o158_3), (270, o270_3), (279, o279_4), (286, o286_4), (293, o293_4), (300, o300_4), (305, o305_4), (312, o312_4), (319, o319_4), (324, o324_4), (331, o331_4), (336, o336_5), (0, (boot_o_0 P)), (20, o20_3), (30, (o30_3 P)), (52, (o52_3 P)), (73, (o73_3 P)), (94, (o94_3 P)), (103, o103_3), (110, o110_3), (115, o115_3), (122, o122_3), (127, o127_3), (132, o132_3), (157, (o157_3 P)), (269, (o269_3 P)), (278, o278_4), (285, o285_4), (292, o292_4), (299, o299_4), (304, o304_4), (311, o311_4), (318, o318_4), (323, o323_4), (330, o330_4), (335, o335_5), (15, o11_1), (16, o12_1), (17, o17_3), (18, o11_1), (19, o19_3), (29, o11_1), (32, o32_3), (50, o50_3), (51, o51_3), (71, o71_3), (72, o72_3), (92, o92_3), (93, o93_3), (96, o96_3), (100, o11_1), (101, o12_1), (102, o102_3), (105, o11_1), (106, o12_1), (107, o107_3), (108, o11_1), (109, o109_3), (112, o11_1), (113, o12_1), (114, o114_3), (117, o11_1), (118, o12_1), (119, o119_3), (120, o11_1), (121, o121_3), (124, o11_1), (125, o12_1), (126, o126_3), (129, o11_1), (130, o12_1), (131, o131_3), (148, o148_3), (155, o155_3), (156, o156_3), (159, o159_3), (160, o160_3), (176, o176_3), (181, o181_3), (188, o188_3), (194, o194_3), (201, o201_3), (209, o209_3), (217, o217_3), (225, o225_3), (232, o232_3), (239, o239_3), (246, o246_3), (253, o253_3), (260, o260_3), (267, o267_3), (268, o268_3), (271, o271_3), (272, o272_3), (275, o11_1), (276, o12_1), (277, o277_4), (280, o11_1), (281, o12_1), (282, o282_4), (283, o11_1), (284, o284_4), (287, o11_1), (288, o12_1), (289, o289_4), (290, o11_1), (291, o291_4), (294, o11_1), (295, o12_1), (296, o296_4), (297, o11_1), (298, o298_4), (301, o11_1), (302, o12_1), (303, o303_4), (306, o11_1), (307, o12_1), (308, o308_4), (309, o11_1), (310, o310_4), (313, o11_1), (314, o12_1), (315, o315_4), (316, o11_1), (317, o317_4), (320, o11_1), (321, o12_1), (322, o322_4), (325, o11_1), (326, o12_1), (327, o327_4), (328, o11_1), (329, o329_4), (332, o11_1), (334, o334_5), (49, o49_3), (38, o38_3), (70, o70_3), (59, o59_3), (91, o91_3), (80, o80_3), (147, o147_3), (141, o141_3), (154, o154_3), (175, o175_3), (171, o171_3), (180, o180_3), (187, o187_3), (183, o183_3), (193, o193_3), (200, o200_3), (208, o208_3), (216, o216_3), (224, o224_3), (231, o231_3), (238, o238_3), (245, o245_3), (252, o252_3), (259, o259_3), (266, o266_3), (44, o44_3), (45, o12_1), (46, o46_3), (47, o11_1), (48, o48_3), (65, o65_3), (66, o12_1), (67, o67_3), (68, o11_1), (69, o69_3), (86, o86_3), (87, o12_1), (88, o88_3), (89, o11_1), (90, o90_3), (142, o11_1), (143, o12_1), (144, o144_3), (145, o11_1), (146, o146_3), (149, o11_1), (150, o12_1), (151, o151_3), (152, o11_1), (153, o153_3), (172, o11_1), (173, o12_1), (174, o174_3), (170, o11_1), (177, o11_1), (178, o12_1), (179, o179_3), (184, o11_1), (185, o12_1), (186, o186_3), (182, o11_1), (192, o192_3), (195, o11_1), (196, o12_1), (197, o197_3), (198, o11_1), (199, o199_3), (207, o207_3), (215, o215_3), (223, o223_3), (226, o11_1), (227, o12_1), (228, o228_3), (229, o11_1), (230, o230_3), (233, o11_1), (234, o12_1), (235, o235_3), (236, o11_1), (237, o237_3), (240, o11_1), (241, o12_1), (242, o242_3), (243, o11_1), (244, o244_3), (247, o11_1), (248, o12_1), (249, o249_3), (250, o11_1), (251, o251_3), (254, o11_1), (255, o12_1), (256, o256_3), (257, o11_1), (258, o258_3), (261, o11_1), (262, o12_1), (263, o263_3), (264, o11_1), (265, o265_3), (189, o11_1), (190, o12_1), (191, o191_3), (202, o11_1), (203, o12_1), (204, o204_3), (205, o11_1), (206, o206_3), (210, o11_1), (211, o12_1), (212, o212_3), (213, o11_1), (214, o214_3), (218, o11_1), (219, o12_1), (220, o220_3), (221, o11_1), (222, o222_3), (2, (o2_3 P))]
def KA : List Addr := [3, 6, 4, 21, 31, 53, 74, 95, 99, 104, 111, 116, 123, 128, 133, 158, 270, 279, 286, 293, 300, 305, 312, 319, 324, 331, 336, 0, 20, 30, 52, 73, 94, 103, 110, 115, 122, 127, 132, 157, 269, 278, 285, 292, 299, 304, 311, 318, 323, 330, 335, 15, 16, 17, 18, 19, 29, 32, 50, 51, 71, 72, 92, 93, 96, 100, 101, 102, 105, 106, 107, 108, 109, 112, 113, 114, 117, 118, 119, 120, 121, 124, 125, 126, 129, 130, 131, 148, 155, 156, 159, 160, 176, 181, 188, 194, 201, 209, 217, 225, 232, 239, 246, 253, 260, 267, 268, 271, 272, 275, 276, 277, 280, 281, 282, 283, 284, 287, 288, 289, 290, 291, 294, 295, 296, 297, 298, 301, 302, 303, 306, 307, 308, 309, 310, 313, 314, 315, 316, 317, 320, 321, 322, 325, 326, 327, 328, 329, 332, 334, 49, 38, 70, 59, 91, 80, 147, 141, 154, 175, 171, 180, 187, 183, 193, 200, 208, 216, 224, 231, 238, 245, 252, 259, 266, 44, 45, 46, 47, 48, 65, 66, 67, 68, 69, 86, 87, 88, 89, 90, 142, 143, 144, 145, 146, 149, 150, 151, 152, 153, 172, 173, 174, 170, 177, 178, 179, 184, 185, 186, 182, 192, 195, 196, 197, 198, 199, 207, 215, 223, 226, 227, 228, 229, 230, 233, 234, 235, 236, 237, 240, 241, 242, 243, 244, 247, 248, 249, 250, 251, 254, 255, 256, 257, 258, 261, 262, 263, 264, 265, 189, 190, 191, 202, 203, 204, 205, 206, 210, 211, 212, 213, 214, 218, 219, 220, 221, 222, 2]
theorem k_as (P : Params) : KA = (KL P).map (·.1) := by kernel_rfl
theorem k_f0 (P : Params) : (((fs).take 25).all fun f => f (KL P)) = true := by kernel_rfl
theorem k_f1 (P : Params) : ((((fs).drop 25).take 25).all fun f => f (KL P)) = true := by kernel_rfl
theorem k_f2 (P : Params) : ((((fs).drop 25).drop 25).all fun f => f (KL P)) = true := by kernel_rfl
theorem k_d0 (P : Params) : ((fn).all fun d => d.ok (KL P)) = true := by kernel_rfl
theorem k_m (P : Params) : fn.map (fun d => He5.fnA (KL P) (d.at_ (KL P))) = fn.map He5.DefA.val := by kernel_rfl
theorem k_says (P : Params) : SaysT fs fn (KL P) := saysT_of (all_cut 25 (k_f0 P) (all_cut 25 (k_f1 P) (k_f2 P))) (k_d0 P) (k_m P)
theorem k_tab (P : Params) : tabOf (KL P) = KT := by kernel_rfl
theorem k_nt (P : Params) : (KL P).lookup KT = none := by kernel_rfl
abbrev hk : PySem.W.Hook := hookL KL KA KT fs fn k_as k_says k_tab k_nt
def ob (s : PySem.W.SharedT) : List (Option Obj) := (KT :: KA).map (HandSHeadRun.getT s)
theorem ob_eq (s : PySem.W.SharedT) : ob s = hk.obs s.abs := by
  have e : HandSHeadRun.getT s = s.abs.heap.get? := funext (HandSHeadRun.getT_eq s)
  unfold ob
  rw [e]
  rfl
theorem l_3 (w : World) (os : OsState) : ob (S5 w os) = hk.val w := by kernel_rfl
theorem r_all (w : World) (os : OsState) : LeftL R qv hk ob nms w n0 ann 2744 (S0 w os).abs (topStub R.prog) := by
  have z := left_end (r := R) (q := qv) (H := hk) (ob := ob) (loose := nms) (r_end w os) (l_1 w os) (l_2 w os) (l_3 w os)
  have z := left_seg (k := 10) (r_3 w os) z
  have z := left_seg (k := 18) (r_2 w os) z
  have z := left_block (r_block w os) z
  have z := left_pre (r_pre w os) z
  exact z
end
end Lk54
end
section
open PySem PySem.Spec PyProof.Rows L2 TreeL
def Lib.eb_h_deal_1 : EvS := (sAsg (eBin modP (eRes (rBui intF (aCons (eRes (rBin addA (eRes (rBin mulA (eVar 4) (eCon (.int 16807)))) (eVar 3))) aNil))) (eCon (.int 2147483647))) (gNm 4))
def Lib.ev_h_deal : EvS := (sSeq (sAsg (eOf (fComp (iAny [0, 1] (eRes (rSl (eVar 0) (oSo (eVar 1)) (oSo (eCon (.int 63)))))) (gNm 3) tYesT (eRes (rBui absF (aCons (eVar 3) aNil))) [3])) (gNm 2))
  (sSeq (sAsg (eRes (rBin addA (eCon (.int 15485863)) (eVar 1))) (gNm 4))
  (sSeq (sFor (iAny [0, 1] (eVar 2)) (gNm 3) Lib.eb_h_deal_1)
  (sSeq (sAsg (eOf (fComp (iAny [0, 1] (eVar 2)) (gNm 3) (tBl (eBin geP (eVar 3) (eBin powP (eCon (.int 10)) (eCon (.int 18))))) (eVar 3) [3])) (gNm 5))
  (sRetF (fBox (fRes (rRev (eVar 5))) [("now", (eCon (.int 0))), ("mixed", (eRes (rBin addA (eVar 4) (eCon (.int 1))))), ("turn", (eCon (.int 0)))]))))))
def Lib.F_h_deal : FSem := fDef 6 [0, 1] Lib.ev_h_deal
def Lib.eb_h_draw_1 : EvS := (sBput 0 "now" (eBpop 0))
def Lib.ev_h_draw : EvS := (sSeq (sLoop (tAn (tBl (eBin eqP (eBget 0 "now") (eCon (.int 0)))) (tBl (eBin gtP (eBlen 0) (eCon (.int 0))))) Lib.eb_h_draw_1 1000)
  (sSeq (sIf (tBl (eBin gtP (eBget 0 "now") (eCon (.int 0)))) (sSeq (sAsg (eBin modP (eRes (rBui intF (aCons (eBget 0 "now") aNil))) (eVar 1)) (gNm 2))
  (sSeq (sBput 0 "now" (eBin fdivP (eBget 0 "now") (eVar 1)))
  (sRet [0, 1] (eVar 2)))) sSkip)
  (sSeq (sBput 0 "turn" (eRes (rBin addA (eBget 0 "turn") (eCon (.int 1)))))
  (sSeq (sAsg (eBin modP (eRes (rBui intF (aCons (eRes (rBin addA (eRes (rBin mulA (eBget 0 "mixed") (eCon (.int 48271)))) (eRes (rBin mulA (eBget 0 "turn") (eCon (.int 69621)))))) aNil))) (eCon (.int 2147483629))) (gNm 3))
  (sSeq (sAsg (eBin modP (eRes (rBui intF (aCons (eRes (rBin addA (eRes (rBin mulA (eVar 3) (eVar 3))) (eRes (rBin mulA (eBget 0 "turn") (eCon (.int 7919)))))) aNil))) (eCon (.int 2147483563))) (gNm 4))
  (sSeq (sBput 0 "mixed" (eRes (rBin addA (eBin modP (eRes (rBui intF (aCons (eRes (rBin addA (eRes (rBin mulA (eVar 4) (eCon (.int 40692)))) (eVar 3))) aNil))) (eCon (.int 2147483647))) (eCon (.int 1)))))
  (sRet [0, 1] (eBin modP (eRes (rBui intF (aCons (eRes (rBin addA (eBin fdivP (eVar 4) (eCon (.int 4096))) (eVar 3))) aNil))) (eVar 1)))))))))
def Lib.F_h_draw : FSem := fDef 5 [0, 1] Lib.ev_h_draw
def Lib.eb_h_mixed_1 : EvS := (sEx (eMut "list" appendO 3 (aCons (eMut "list" popO 2 (aCons (eRes (rCall 2 Lib.F_h_draw [] (aCons (eVar 0) (aCons (eRes (rBui lenF (aCons (eVar 2) aNil))) aNil)))) aNil)) aNil)))
def Lib.ev_h_mixed : EvS := (sSeq (sPar 2 3 (bCons (rOwn (fRes (rBui listF (aCons (eVar 1) aNil)))) (bCons (rOwn (fLst aNil)) bNil)))
  (sSeq (sLoop (tBl (eBin neP (eVar 2) (eLst aNil))) Lib.eb_h_mixed_1 1000)
  (sRet [0, 1] (eVar 3))))
def Lib.F_h_mixed : FSem := fDef 4 [0, 1] Lib.ev_h_mixed
def Lib.ev_h_pool : EvS := (sSeq (sAsg (eLst (aCons (eCon (.str "new")) (aCons (eCon (.str "off")) (aCons (eCon (.str "yes")) (aCons (eCon (.str "a")) (aCons (eCon (.str "made")) (aCons (eCon (.str "gone")) (aCons (eCon (.str "some")) (aCons (eCon (.str "all")) (aCons (eCon (.str "at")) (aCons (eCon (.str "mark")) aNil))))))))))) (gNm 0))
  (sRet [] (eRes (rBin addA (eVar 0) (eLst (aCons (eCon (.str "make")) (aCons (eCon (.str "lead")) (aCons (eCon (.str "turn")) (aCons (eCon (.str "free")) (aCons (eCon (.str "zzzz")) aNil))))))))))
def Lib.F_h_pool : FSem := fDef 1 [] Lib.ev_h_pool
def Lib.ev_h_names : EvS := (sRet [0, 1] (eRes (rSl (eRes (rCall 2 Lib.F_h_mixed [] (aCons (eVar 0) (aCons (eRes (rCall 0 Lib.F_h_pool [] aNil)) aNil)))) oNo (oSo (eVar 1)))))
def Lib.F_h_names : FSem := fDef 2 [0, 1] Lib.ev_h_names
def Lib.ev_h_pick : EvS := (sRet [0, 1] (eBin ixP (eVar 1) (eRes (rCall 2 Lib.F_h_draw [] (aCons (eVar 0) (aCons (eRes (rBui lenF (aCons (eVar 1) aNil))) aNil))))))
def Lib.F_h_pick : FSem := fDef 2 [0, 1] Lib.ev_h_pick
def Lib.ev_h_event : EvS := (sSeq (sPar 3 4 (bCons (rTree (eRes (rCall 2 Lib.F_h_draw [] (aCons (eVar 0) (aCons (eCon (.int 8)) aNil))))) (bCons (rTree (eRes (rCall 2 Lib.F_h_draw [] (aCons (eVar 0) (aCons (eVar 1) aNil))))) bNil)))
  (sSeq (sIf (tBl (eBin ltP (eVar 3) (eCon (.int 2)))) (sRet [0, 1, 2] (eTup (aCons (eBin ixP (eLst (aCons (eCon (.str "there")) (aCons (eCon (.str "back")) aNil))) (eVar 3)) (aCons (eVar 4) (aCons (eRes (rCall 2 Lib.F_h_pick [] (aCons (eVar 0) (aCons (eVar 2) aNil)))) aNil))))) sSkip)
  (sSeq (sIf (tBl (eBin eqP (eVar 3) (eCon (.int 2)))) (sRet [0, 1, 2] (eTup (aCons (eCon (.str "turn")) (aCons (eRes (rCall 2 Lib.F_h_draw [] (aCons (eVar 0) (aCons (eCon (.int 12)) aNil)))) aNil)))) sSkip)
  (sRet [0, 1, 2] (eTup (aCons (eBin ixP (eLst (aCons (eCon (.str "time")) (aCons (eCon (.str "build")) (aCons (eCon (.str "leave")) (aCons (eCon (.str "work")) (aCons (eCon (.str "wipe")) aNil)))))) (eBin subP (eVar 3) (eCon (.int 3)))) (aCons (eVar 4) aNil)))))))
def Lib.F_h_event : FSem := fDef 5 [0, 1, 2] Lib.ev_h_event
def Lib.ev_h_weaving : EvS := (sSeq (sAsg (eRes (rCall 2 Lib.F_h_names [] (aCons (eVar 0) (aCons (eCon (.int 8)) aNil)))) (gNm 2))
  (sSeq (sAsg (eOf (fComp (iRngA (aCons (eRes (rBin addA (eCon (.int 1)) (eRes (rCall 2 Lib.F_h_draw [] (aCons (eVar 0) (aCons (eCon (.int 4)) aNil)))))) aNil)) (gNm 4) tYesT (eRes (rCall 2 Lib.F_h_pick [] (aCons (eVar 0) (aCons (eRes (rSl (eVar 2) oNo (oSo (eCon (.int 4))))) aNil)))) [4])) (gNm 3))
  (sRet [0, 1] (eTup (aCons (eVar 3) (aCons (eOf (fComp (iRngA (aCons (eRes (rCall 2 Lib.F_h_draw [] (aCons (eVar 0) (aCons (eRes (rBin addA (eVar 1) (eCon (.int 1)))) aNil)))) aNil)) (gNm 4) tYesT (eRes (rCall 3 Lib.F_h_event [] (aCons (eVar 0) (aCons (eRes (rBui lenF (aCons (eVar 3) aNil))) (aCons (eRes (rSl (eVar 2) (oSo (eCon (.int 4))) oNo)) aNil))))) [4])) aNil))))))
def Lib.F_h_weaving : FSem := fDef 5 [0, 1] Lib.ev_h_weaving
def Lib.ev_h_event_text : EvS := (sRet [0] (eRes (rMet "str" joinM (eCon (.str " ")) (aCons (eOf (fComp (iAny [0] (eVar 0)) (gNm 1) tYesT (eRes (rBui strF (aCons (eVar 1) aNil))) [1])) aNil))))
def Lib.F_h_event_text : FSem := fDef 2 [0] Lib.ev_h_event_text
def Lib.ev_h_weaving_text : EvS := (sRet [0, 1] (eRes (rMet "str" joinM (eCon (.str "; ")) (aCons (eRes (rBin addA (eLst (aCons (eRes (rMet "str" joinM (eCon (.str " ")) (aCons (eVar 0) aNil))) aNil)) (eOf (fComp (iAny [0, 1] (eVar 1)) (gNm 2) tYesT (eRes (rCall 1 Lib.F_h_event_text [] (aCons (eVar 2) aNil))) [2])))) aNil))))
def Lib.F_h_weaving_text : FSem := fDef 3 [0, 1] Lib.ev_h_weaving_text
def Lib.ev_is_sequence (ks : List Nat) : EvS := (sRet [0] (eIsi (tbY [.lst, .tup]) ks (eVar 0)))
def Lib.F_is_sequence (ks : List Nat) : FSem := fDef 1 [0] (Lib.ev_is_sequence ks)
def Lib.ev_is_name (ks : List Nat) : EvS := (sSeq (sIf (tOrr (tNt (tTru (eIsi (tbY [.str]) ks (eVar 0)))) (tOrr (tNt (tOfE (eChn leP leP (eCon (.int 1)) (eRes (rBui lenF (aCons (eVar 0) aNil))) (eCon (.int 4))))) (tBl (eBin inP (eVar 0) (eCon (.tup ((["and", "any", "do", "if", "none", "not", "same", "send", "then", "time", "to", "wipe", "work"] : List PySem.Str).map .str))))))) (sRet [0] (eCon (.bl false))) sSkip)
  (sRet [0] (eRes (rBui allF (aCons (eOf (fComp (iAny [0] (eVar 0)) (gNm 1) tYesT (eBin inP (eVar 1) (eCon (.str "abcdefghijklmnopqrstuvwxyz"))) [1])) aNil)))))
def Lib.F_is_name (ks : List Nat) : FSem := fDef 2 [0] (Lib.ev_is_name ks)
def Lib.ev_are_names (ks : List Nat) : EvS := (sRet [0] (eAnd (eRes (rCall 1 (Lib.F_is_sequence ks) [] (aCons (eVar 0) aNil))) (eRes (rBui allF (aCons (eOf (fComp (iAny [0] (eVar 0)) (gNm 1) tYesT (eRes (rCall 1 (Lib.F_is_name ks) [] (aCons (eVar 1) aNil))) [1])) aNil)))))
def Lib.F_are_names (ks : List Nat) : FSem := fDef 2 [0] (Lib.ev_are_names ks)
def Lib.ev_are_firsts (ks : List Nat) : EvS := (sRet [0] (eAnd (eRes (rCall 1 (Lib.F_are_names ks) [] (aCons (eVar 0) aNil))) (eBin gtP (eRes (rBui lenF (aCons (eVar 0) aNil))) (eCon (.int 0)))))
def Lib.F_are_firsts (ks : List Nat) : FSem := fDef 1 [0] (Lib.ev_are_firsts ks)
def Lib.ev_is_integer (ks : List Nat) : EvS := (sRet [0] (eAnd (eIsi (tbY [.int, .bl]) ks (eVar 0)) (eNot (eIsi (tbY [.bl]) ks (eVar 0)))))
def Lib.F_is_integer (ks : List Nat) : FSem := fDef 1 [0] (Lib.ev_is_integer ks)
def Lib.ev_is_step (ks : List Nat) : EvS := (sRet [0, 1] (eAnd (eRes (rCall 1 (Lib.F_is_integer ks) [] (aCons (eVar 0) aNil))) (eChn leP ltP (eCon (.int 0)) (eVar 0) (eVar 1))))
def Lib.F_is_step (ks : List Nat) : FSem := fDef 2 [0, 1] (Lib.ev_is_step ks)
def Lib.ev_is_event (ks : List Nat) : EvS := (sSeq (sIf (tOrr (tNt (tTru (eIsi (tbY [.tup]) ks (eVar 0)))) (tOrr (tBl (eBin eqP (eRes (rBui lenF (aCons (eVar 0) aNil))) (eCon (.int 0)))) (tNt (tTru (eIsi (tbY [.str]) ks (eBin ixP (eVar 0) (eCon (.int 0)))))))) (sRet [0, 1] (eCon (.bl false))) sSkip)
  (sSeq (sMatch (eVar 0) (cSeq [2, 3] (tBl (eBin inP (eVar 2) (eCon (.tup ((["time", "build", "leave", "work", "wipe"] : List PySem.Str).map .str))))) (sRet [0, 1] (eRes (rCall 2 (Lib.F_is_step ks) [] (aCons (eVar 3) (aCons (eVar 1) aNil))))) (cSeq [2, 3, 4] (tBl (eBin inP (eVar 2) (eCon (.tup ((["back", "there"] : List PySem.Str).map .str))))) (sRet [0, 1] (eAnd (eRes (rCall 2 (Lib.F_is_step ks) [] (aCons (eVar 3) (aCons (eVar 1) aNil)))) (eRes (rCall 1 (Lib.F_is_name ks) [] (aCons (eVar 4) aNil))))) (cSeq [2, 5] (tBl (eBin eqP (eVar 2) (eCon (.str "turn")))) (sRet [0, 1] (eAnd (eRes (rCall 1 (Lib.F_is_integer ks) [] (aCons (eVar 5) aNil))) (eBin geP (eVar 5) (eCon (.int 0))))) cNil))))
  (sRet [0, 1] (eCon (.bl false)))))
def Lib.F_is_event (ks : List Nat) : FSem := fDef 6 [0, 1] (Lib.ev_is_event ks)
def Lib.eb_Weaving___init___1 (ks : List Nat) : EvS := (sIf (tNt (tTru (eRes (rCall 2 (Lib.F_is_event ks) [] (aCons (eVar 4) (aCons (eRes (rBui lenF (aCons (eVar 1) aNil))) aNil)))))) (sRaise 23 "at" (eVar 3)) sSkip)
def Lib.ev_Weaving___init__ (ks : List Nat) : EvS := (sSeq (sIf (tOrr (tNt (tTru (eRes (rCall 1 (Lib.F_are_firsts ks) [] (aCons (eVar 1) aNil))))) (tNt (tTru (eRes (rCall 1 (Lib.F_is_sequence ks) [] (aCons (eVar 2) aNil)))))) (sRaise 23 "at" (eCon (.int 0))) sSkip)
  (sSeq (sFor (iEnumS (aCons (eVar 2) aNil)) (gTpL 2 (gsCons (gNm 3) (gsCons (gNm 4) gsNil))) (Lib.eb_Weaving___init___1 ks))
  (sSeq (sFldT 0 6 "firsts" (eRes (rBui tupleF (aCons (eVar 1) aNil))))
  (sFldT 0 6 "events" (eRes (rBui tupleF (aCons (eVar 2) aNil)))))))
def Lib.F_Weaving___init__ (ks : List Nat) : FSem := fDef 5 [0, 1, 2] (Lib.ev_Weaving___init__ ks)
def Lib.ev_number_in : EvS := (sSeq (sIf (tOrr (tNt (tOfE (eChn leP leP (eCon (.int 1)) (eRes (rBui lenF (aCons (eVar 0) aNil))) (eVar 1)))) (tNt (tTru (eRes (rBui allF (aCons (eOf (fComp (iAny [0, 1] (eVar 0)) (gNm 2) tYesT (eBin inP (eVar 2) (eCon (.str "0123456789"))) [2])) aNil)))))) (sRet [0, 1] (eCon .non)) sSkip)
  (sRet [0, 1] (eIf (tOrr (tBl (eBin eqP (eVar 0) (eCon (.str "0")))) (tBl (eBin neP (eBin ixP (eVar 0) (eCon (.int 0))) (eCon (.str "0"))))) (eRes (rBui intF (aCons (eVar 0) aNil))) (eCon .non))))
def Lib.F_number_in : FSem := fDef 3 [0, 1] Lib.ev_number_in
def Lib.ev_event_in (ks : List Nat) : EvS := (sSeq (sAsg (eRes (rMet "str" splitM (eVar 0) (aCons (eCon (.str " ")) aNil))) (gStr 1 (gsCons (gNm 2) (gsCons (gNm 3) gsNil))))
  (sSeq (sAsg (eIf (tBl (eBin gtP (eRes (rBui lenF (aCons (eVar 3) aNil))) (eCon (.int 0)))) (eRes (rCall 2 Lib.F_number_in [.int 4] (aCons (eBin ixP (eVar 3) (eCon (.int 0))) aNil))) (eCon .non)) (gNm 4))
  (sSeq (sAsg (eTup (aCons (eVar 2) (aCons (eVar 4) (aStar (eRes (rSl (eVar 3) (oSo (eCon (.int 1))) oNo)) aNil)))) (gNm 5))
  (sRet [0, 1] (eIf (tAn (tBl (eBin notNP (eVar 4) (eCon .non))) (tTru (eRes (rCall 2 (Lib.F_is_event ks) [] (aCons (eVar 5) (aCons (eVar 1) aNil)))))) (eVar 5) (eCon .non))))))
def Lib.F_event_in (ks : List Nat) : FSem := fDef 6 [0, 1] (Lib.ev_event_in ks)
def Lib.ev_Weaving_read (ks : List Nat) : EvS := (sSeq (sAsg (eRes (rMet "str" splitM (eVar 1) (aCons (eCon (.str "; ")) aNil))) (gStr 1 (gsCons (gNm 2) (gsCons (gNm 3) gsNil))))
  (sSeq (sAsg (eRes (rMet "str" splitM (eVar 2) (aCons (eCon (.str " ")) aNil))) (gNm 4))
  (sSeq (sIf (tNt (tTru (eRes (rCall 1 (Lib.F_are_firsts ks) [] (aCons (eVar 4) aNil))))) (sRaise 22 "at" (eCon (.int 0))) sSkip)
  (sSeq (sAsg (eOf (fComp (iAny [0, 1] (eVar 3)) (gNm 6) tYesT (eRes (rCall 2 (Lib.F_event_in ks) [] (aCons (eVar 6) (aCons (eRes (rBui lenF (aCons (eVar 4) aNil))) aNil)))) [6])) (gNm 5))
  (sSeq (sIf (tBl (eBin inP (eCon .non) (eVar 5))) (sRaise 22 "at" (eRes (rBin addA (eCon (.int 1)) (eRes (rMet "list" indexM (eVar 5) (aCons (eCon .non) aNil)))))) sSkip)
  (sRet [0, 1] (eRes (rMakeV 0 6 3 (Lib.F_Weaving___init__ ks) [] (aCons (eVar 4) (aCons (eVar 5) aNil))))))))))
def Lib.F_Weaving_read (ks : List Nat) : FSem := fDef 7 [0, 1] (Lib.ev_Weaving_read ks)
def Lib.ev_Weaving___str__ (ks : List Nat) : EvS := (sSeq (sAsg (eOf (fComp (iAny [0] (eFl [6] ks "events" (eVar 0))) (gNm 3) tYesT (eRes (rMet "str" joinM (eCon (.str " ")) (aCons (eOf (fComp (iAny [0] (eVar 3)) (gNm 2) tYesT (eRes (rBui strF (aCons (eVar 2) aNil))) [2])) aNil))) [3])) (gNm 1))
  (sRet [0] (eRes (rMet "str" joinM (eCon (.str "; ")) (aCons (eLst (aCons (eRes (rMet "str" joinM (eCon (.str " ")) (aCons (eFl [6, 7] ks "firsts" (eVar 0)) aNil))) (aStar (eVar 1) aNil))) aNil)))))
def Lib.F_Weaving___str__ (ks : List Nat) : FSem := fDef 4 [0] (Lib.ev_Weaving___str__ ks)
def Lib.ev_Weaving___eq__ (ks : List Nat) : EvS := (sRet [0, 1] (eAnd (eIsi (tbY [.ins 6]) ks (eVar 1)) (eBin eqP (eTup (aCons (eFl [6, 7] ks "firsts" (eVar 0)) (aCons (eFl [6] ks "events" (eVar 0)) aNil))) (eTup (aCons (eFl [6, 7] ks "firsts" (eVar 1)) (aCons (eFl [6] ks "events" (eVar 1)) aNil))))))
def Lib.F_Weaving___eq__ (ks : List Nat) : FSem := fDef 2 [0, 1] (Lib.ev_Weaving___eq__ ks)
def Lib.ev_Weaving___getitem__ (ks : List Nat) : EvS := (sSeq (sIf (tNt (tTru (eIsi (tbY [.int, .bl]) ks (eVar 1)))) (sRet [0, 1] (eRes (rMake 6 3 (Lib.F_Weaving___init__ ks) [] (aCons (eFl [6, 7] ks "firsts" (eVar 0)) (aCons (eBin ixP (eFl [6] ks "events" (eVar 0)) (eVar 1)) aNil))))) sSkip)
  (sSeq (sIf (tNt (tOfE (eChn leP ltP (eCon (.int 0)) (eVar 1) (eRes (rBui lenF (aCons (eFl [6] ks "events" (eVar 0)) aNil)))))) (sRaise 30 "at" (eVar 1)) sSkip)
  (sRet [0, 1] (eBin ixP (eFl [6] ks "events" (eVar 0)) (eVar 1)))))
def Lib.F_Weaving___getitem__ (ks : List Nat) : FSem := fDef 2 [0, 1] (Lib.ev_Weaving___getitem__ ks)
namespace Lk12
abbrev ks : List Nat := [6]
def eb_law_1 : EvS := (sSeq (sAsg (eRes (rCall 2 Lib.F_h_weaving [] (aCons (eVar 1) (aCons (eCon (.int 40)) aNil)))) (gTpL 2 (gsCons (gNm 3) (gsCons (gNm 4) gsNil))))
  (sSeq (sAsg (eOf (fComp (iAny [0] (eVar 4)) (gNm 5) tYesT (eIf (tBl (eBin eqP (eBin ixP (eVar 5) (eCon (.int 0))) (eCon (.str "turn")))) (eTup (aCons (eCon (.str "turn")) (aCons (eRes (rCall 2 Lib.F_h_draw [] (aCons (eVar 1) (aCons (eCon (.int 10000)) aNil)))) aNil))) (eVar 5)) [5])) (gNm 4))
  (sSeq (sPar 6 7 (bCons (rTree (eRes (rMake 6 3 (Lib.F_Weaving___init__ ks) [] (aCons (eVar 3) (aCons (eVar 4) aNil))))) (bCons (rTree (eRes (rCall 2 Lib.F_h_weaving_text [] (aCons (eVar 3) (aCons (eVar 4) aNil))))) bNil)))
  (sSeq (sAsg (eRes (rCls 6 2 (Lib.F_Weaving_read ks) [] (aCons (eVar 7) aNil))) (gNm 8))
  (sSeq (sIf (tOrr (tBl (eBin neP (eRes (rDun1 6 (Lib.F_Weaving___str__ ks) okStr (eVar 6))) (eVar 7))) (tOrr (tBl (eBin neP (eRes (rDun1 6 (Lib.F_Weaving___str__ ks) okStr (eVar 8))) (eVar 7))) (tTst (rDun2 6 (Lib.F_Weaving___eq__ ks) gNot (isIns 6) (eVar 8) (eVar 6))))) (sRet [0] (eCon (.bl false))) sSkip)
  (sSeq (sIf (tBl (eBin neP (eRes (rBui reprF (aCons (eTup (aCons (eFl [6, 7] ks "firsts" (eVar 8)) (aCons (eFl [6] ks "events" (eVar 8)) aNil))) aNil))) (eRes (rBui reprF (aCons (eTup (aCons (eRes (rBui tupleF (aCons (eVar 3) aNil))) (aCons (eRes (rBui tupleF (aCons (eVar 4) aNil))) aNil))) aNil))))) (sRet [0] (eCon (.bl false))) sSkip)
  (sSeq (sAsg (eOf (fComp (iAny [0] (eVar 4)) (gNm 5) tYesT (eRes (rCls 6 2 (Lib.F_Weaving_read ks) [] (aCons (eRes (rBin addA (eRes (rBin addA (eRes (rMet "str" joinM (eCon (.str " ")) (aCons (eVar 3) aNil))) (eCon (.str "; ")))) (eRes (rCall 1 Lib.F_h_event_text [] (aCons (eVar 5) aNil))))) aNil))) [5])) (gNm 9))
  (sIf (tOrr (tBl (eBin neP (eOf (fComp (iAny [0] (eVar 9)) (gNm 10) tYesT (eRes (rDun2 6 (Lib.F_Weaving___getitem__ ks) gId anyY (eVar 10) (eCon (.int 0)))) [10])) (eVar 4))) (tTst (rDun2 6 (Lib.F_Weaving___eq__ ks) gNot (isIns 6) (eRes (rCls 6 2 (Lib.F_Weaving_read ks) [] (aCons (eRes (rMet "str" joinM (eCon (.str " ")) (aCons (eVar 3) aNil))) aNil))) (eRes (rMake 6 3 (Lib.F_Weaving___init__ ks) [.tup []] (aCons (eVar 3) aNil)))))) (sRet [0] (eCon (.bl false))) sSkip))))))))
def ev_law : EvS := (sSeq (sOwn 1 (fRes (rCall 2 Lib.F_h_deal [] (aCons (eVar 0) (aCons (eCon (.int 0)) aNil)))))
  (sSeq (sFor (iRngA (aCons (eCon (.int 8)) aNil)) (gNm 2) eb_law_1)
  (sRet [0] (eRes (rDun2 6 (Lib.F_Weaving___eq__ ks) gBl (isIns 6) (eRes (rCls 6 2 (Lib.F_Weaving_read ks) [] (aCons (eCon (.str "a b; back 1 ok; turn 9999")) aNil))) (eRes (rMake 6 3 (Lib.F_Weaving___init__ ks) [] (aCons (eLst (aCons (eCon (.str "a")) (aCons (eCon (.str "b")) aNil))) (aCons (eLst (aCons (eTup (aCons (eCon (.str "back")) (aCons (eCon (.int 1)) (aCons (eCon (.str "ok")) aNil)))) (aCons (eTup (aCons (eCon (.str "turn")) (aCons (eCon (.int 9999)) aNil))) aNil))) aNil)))))))))
def F_law : FSem := fDef 11 [0] ev_law
end Lk12
end
section
open PySem PySem.Spec PyProof.Rows L2 TreeL
def Lib.eb_h_feed_1 : EvS := (sAsg (eBin modP (eRes (rBui intF (aCons (eRes (rBin addA (eRes (rBin addA (eRes (rBui intF (aCons (eRes (rBin mulA (eVar 4) (eCon (.int 48271)))) aNil))) (eBin modP (eRes (rBui intF (aCons (eVar 3) aNil))) (eCon (.int 2147483587))))) (eCon (.int 7)))) aNil))) (eCon (.int 2147483647))) (gNm 4))
def Lib.ev_h_feed : EvS := (sSeq (sAsg (eOf (fComp (iAny [0, 1] (eRes (rSl (eVar 0) (oSo (eVar 1)) (oSo (eRes (rBin addA (eVar 1) (eCon (.int 60)))))))) (gNm 3) tYesT (eRes (rBui absF (aCons (eRes (rBui intF (aCons (eVar 3) aNil))) aNil))) [3])) (gNm 2))
  (sSeq (sAsg (eRes (rBin addA (eCon (.int 50131)) (eRes (rBin mulA (eCon (.int 17)) (eVar 1))))) (gNm 4))
  (sSeq (sFor (iAny [0, 1] (eVar 2)) (gNm 3) Lib.eb_h_feed_1)
  (sRetF (fBox (fRes (rRev (eOf (fComp (iAny [0, 1] (eVar 2)) (gNm 3) (tBl (eBin geP (eVar 3) (eBin powP (eCon (.int 10)) (eCon (.int 18))))) (eVar 3) [3])))) [("mixed", (eVar 4))])))))
def Lib.F_h_feed : FSem := fDef 5 [0, 1] Lib.ev_h_feed
def Lib.ev_is_need (ks : List Nat) : EvS := (sSeq (sIf (tOrr (tNt (tTru (eIsi (tbY [.tup]) ks (eVar 0)))) (tBl (eBin neP (eRes (rBui lenF (aCons (eVar 0) aNil))) (eCon (.int 2))))) (sRet [0, 1] (eCon (.bl false))) sSkip)
  (sRet [0, 1] (eRes (rBui allF (aCons (eOf (fComp (iAny [0, 1] (eVar 0)) (gNm 2) tYesT (eAnd (eIsi (tbY [.str]) ks (eVar 2)) (eBin inP (eVar 2) (eVar 1))) [2])) aNil)))))
def Lib.F_is_need (ks : List Nat) : FSem := fDef 3 [0, 1] (Lib.ev_is_need ks)
def Lib.ev_joined_with : EvS := (sSeq (sAsg (eOf (fComp (iAny [0, 1, 2] (eVar 0)) (gTpL 2 (gsCons (gNm 4) (gsCons (gNm 5) gsNil))) (tBl (eBin eqP (eVar 4) (eVar 2))) (eTup (aCons (eVar 1) (aCons (eVar 5) aNil))) [4, 5])) (gNm 3))
  (sRet [0, 1, 2] (eRes (rBin addA (eVar 3) (eOf (fComp (iAny [0, 1, 2] (eVar 0)) (gTpL 2 (gsCons (gNm 4) (gsCons (gNm 5) gsNil))) (tBl (eBin eqP (eVar 5) (eVar 1))) (eTup (aCons (eVar 4) (aCons (eVar 2) aNil))) [4, 5]))))))
def Lib.F_joined_with : FSem := fDef 6 [0, 1, 2] Lib.ev_joined_with
def Lib.eb_closed_1 : EvS := (sDputT 1 (eVar 2) (eCon (.bl true)))
def Lib.eb_closed_2 : EvS := (sIf (tBl (eBin ninDT (eVar 2) (eVar 1))) (sSeq (sDputT 1 (eVar 2) (eCon (.bl true)))
  (sEx (eMut "list" appendO 3 (aCons (eVar 2) aNil)))) sSkip)
def Lib.eb_closed_3 : EvS := (sSeq (sAsg (eBin ixP (eVar 3) (eVar 4)) (gTpL 2 (gsCons (gNm 5) (gsCons (gNm 6) gsNil))))
  (sSeq (sAsg (eRes (rBin addA (eVar 4) (eCon (.int 1)))) (gNm 4))
  (sFor (iAny [0] (eRes (rCall 3 Lib.F_joined_with [] (aCons (eOf (fKeysT 1)) (aCons (eVar 5) (aCons (eVar 6) aNil)))))) (gNm 2) Lib.eb_closed_2)))
def Lib.ev_closed : EvS := (sSeq (sOwn 1 fDct0T)
  (sSeq (sFor (iAny [0] (eVar 0)) (gNm 2) Lib.eb_closed_1)
  (sSeq (sOwn 3 (fKeysT 1))
  (sSeq (sAsg (eCon (.int 0)) (gNm 4))
  (sSeq (sLoop (tBl (eBin ltP (eVar 4) (eRes (rBui lenF (aCons (eVar 3) aNil))))) Lib.eb_closed_3 1000)
  (sRet [0] (eVar 1)))))))
def Lib.F_closed : FSem := fDef 7 [0] Lib.ev_closed
def Lib.ev_has_ring : EvS := (sRet [0] (eRes (rBui anyF (aCons (eOf (fComp (iKeyTF (fRes (rCall 1 Lib.F_closed [] (aCons (eVar 0) aNil)))) (gTpL 2 (gsCons (gNm 1) (gsCons (gNm 2) gsNil))) tYesT (eBin eqP (eVar 1) (eVar 2)) [1, 2])) aNil))))
def Lib.F_has_ring : FSem := fDef 3 [0] Lib.ev_has_ring
def Lib.ev_Tasks___init__ (ks : List Nat) : EvS := (sSeq (sIf (tOrr (tNt (tTru (eRes (rCall 1 (Lib.F_is_sequence ks) [] (aCons (eVar 1) aNil))))) (tNt (tTru (eRes (rBui allF (aCons (eOf (fComp (iAny [0, 1, 2] (eVar 1)) (gNm 3) tYesT (eIsi (tbY [.ins 14]) ks (eVar 3)) [3])) aNil)))))) (sRaise 24 "word" (eCon (.str "tasks"))) sSkip)
  (sSeq (sAsg (eOf (fComp (iAny [0, 1, 2] (eVar 1)) (gNm 3) tYesT (eFl [2, 14] ks "name" (eVar 3)) [3])) (gNm 4))
  (sSeq (sIf (tBl (eBin ltP (eLenSet (eVar 4)) (eRes (rBui lenF (aCons (eVar 4) aNil))))) (sRaise 24 "word" (eCon (.str "name"))) sSkip)
  (sSeq (sIf (tOrr (tNt (tTru (eRes (rCall 1 (Lib.F_is_sequence ks) [] (aCons (eVar 2) aNil))))) (tNt (tTru (eRes (rBui allF (aCons (eOf (fComp (iAny [0, 1, 2] (eVar 2)) (gNm 5) tYesT (eRes (rCall 2 (Lib.F_is_need ks) [] (aCons (eVar 5) (aCons (eVar 4) aNil)))) [5])) aNil)))))) (sRaise 24 "word" (eCon (.str "needs"))) sSkip)
  (sSeq (sIf (tTru (eRes (rCall 1 Lib.F_has_ring [] (aCons (eVar 2) aNil)))) (sRaise 24 "word" (eCon (.str "ring"))) sSkip)
  (sSeq (sFldT 0 15 "tasks" (eRes (rBui tupleF (aCons (eVar 1) aNil))))
  (sFldT 0 15 "needs" (eRes (rBui tupleF (aCons (eVar 2) aNil))))))))))
def Lib.F_Tasks___init__ (ks : List Nat) : FSem := fDef 6 [0, 1, 2] (Lib.ev_Tasks___init__ ks)
def Lib.eb_h_take_1 : EvS := (sEx (eBpop 0))
def Lib.ev_h_take : EvS := (sAli 0 2 (sSeq (sLoop (tAn (tBl (eAlBin neP 0 (eLst aNil))) (tBl (eBin eqP (eAlBin ixP 0 (eUn negP (eCon (.int 1)))) (eCon (.int 0))))) Lib.eb_h_take_1 1000)
  (sSeq (sIf (tBl (eAlBin neP 0 (eLst aNil))) (sSeq (sAsg (eBpop 0) (gNm 3))
  (sSeq (sEx (eAlApp 0 (aCons (eBin fdivP (eVar 3) (eVar 1)) aNil)))
  (sRet [0, 1, 2] (eBin modP (eRes (rBui intF (aCons (eVar 3) aNil))) (eVar 1))))) sSkip)
  (sSeq (sBput 0 "mixed" (eBin modP (eRes (rBui intF (aCons (eRes (rBin addA (eRes (rBin mulA (eBget 0 "mixed") (eCon (.int 48271)))) (eCon (.int 19)))) aNil))) (eCon (.int 2147483647))))
  (sRet [0, 1, 2] (eBin modP (eRes (rBui intF (aCons (eBin fdivP (eBget 0 "mixed") (eCon (.int 32))) aNil))) (eVar 1)))))))
def Lib.F_h_take : FSem := fDef 4 [0, 1] Lib.ev_h_take
def Lib.ev_h_pick_b : EvS := (sRet [0, 1] (eBin ixP (eVar 1) (eRes (rCall 2 Lib.F_h_take [] (aCons (eVar 0) (aCons (eRes (rBui lenF (aCons (eVar 1) aNil))) aNil))))))
def Lib.F_h_pick_b : FSem := fDef 2 [0, 1] Lib.ev_h_pick_b
def Lib.ev_Task___init__ (ks : List Nat) : EvS := (sSeq (sIf (tNt (tTru (eRes (rCall 1 (Lib.F_is_name ks) [] (aCons (eVar 1) aNil))))) (sRaise 24 "word" (eCon (.str "name"))) sSkip)
  (sSeq (sIf (tNt (tTru (eIsi (tbY [.bl]) ks (eVar 2)))) (sRaise 24 "word" (eCon (.str "back"))) sSkip)
  (sSeq (sIf (tNt (tTru (eIsi (tbY [.bl]) ks (eVar 3)))) (sRaise 24 "word" (eCon (.str "sure"))) sSkip)
  (sSeq (sFldT 0 14 "name" (eVar 1))
  (sSeq (sFldT 0 14 "back" (eVar 2))
  (sFldT 0 14 "sure" (eVar 3)))))))
def Lib.F_Task___init__ (ks : List Nat) : FSem := fDef 4 [0, 1, 2, 3] (Lib.ev_Task___init__ ks)
def Lib.ev_h_is_name_d (ks : List Nat) : EvS := (sSeq (sAsg (eLst (aCons (eCon (.str "and")) (aCons (eCon (.str "any")) (aCons (eCon (.str "do")) (aCons (eCon (.str "if")) (aCons (eCon (.str "none")) (aCons (eCon (.str "not")) (aCons (eCon (.str "same")) (aCons (eCon (.str "send")) (aCons (eCon (.str "then")) (aCons (eCon (.str "time")) (aCons (eCon (.str "to")) (aCons (eCon (.str "wipe")) (aCons (eCon (.str "work")) aNil)))))))))))))) (gNm 1))
  (sSeq (sIf (tOrr (tNt (tTru (eIsi (tbY [.str]) ks (eVar 0)))) (tOrr (tNt (tOfE (eChn ltP ltP (eCon (.int 0)) (eRes (rBui lenF (aCons (eVar 0) aNil))) (eCon (.int 5))))) (tBl (eBin inP (eVar 0) (eVar 1))))) (sRet [0] (eCon (.bl false))) sSkip)
  (sRet [0] (eBin eqP (eOf (fComp (iAny [0] (eVar 0)) (gNm 2) (tBl (eBin ninP (eVar 2) (eCon (.str "abcdefghijklmnopqrstuvwxyz")))) (eVar 2) [2])) (eLst aNil)))))
def Lib.F_h_is_name_d (ks : List Nat) : FSem := fDef 3 [0] (Lib.ev_h_is_name_d ks)
def Lib.ev_h_is_bool (ks : List Nat) : EvS := (sRet [0] (eIsi (tbY [.bl]) ks (eVar 0)))
def Lib.F_h_is_bool (ks : List Nat) : FSem := fDef 1 [0] (Lib.ev_h_is_bool ks)
def Lib.ev_h_task_due (ks : List Nat) : EvS := (sSeq (sIf (tNt (tTru (eRes (rCall 1 (Lib.F_h_is_name_d ks) [] (aCons (eVar 0) aNil))))) (sRet [0, 1, 2] (eCon (.str "name"))) sSkip)
  (sSeq (sIf (tNt (tTru (eRes (rCall 1 (Lib.F_h_is_bool ks) [] (aCons (eVar 1) aNil))))) (sRet [0, 1, 2] (eCon (.str "back"))) sSkip)
  (sRet [0, 1, 2] (eIf (tTru (eRes (rCall 1 (Lib.F_h_is_bool ks) [] (aCons (eVar 2) aNil)))) (eCon (.str "made")) (eCon (.str "sure"))))))
def Lib.F_h_task_due (ks : List Nat) : FSem := fDef 3 [0, 1, 2] (Lib.ev_h_task_due ks)
def Lib.eb_h_mixed_b_1 : EvS := (sEx (eMut "list" appendO 3 (aCons (eMut "list" popO 2 (aCons (eRes (rCall 2 Lib.F_h_take [] (aCons (eVar 0) (aCons (eRes (rBui lenF (aCons (eVar 2) aNil))) aNil)))) aNil)) aNil)))
def Lib.ev_h_mixed_b : EvS := (sSeq (sPar 2 3 (bCons (rOwn (fRes (rBui listF (aCons (eVar 1) aNil)))) (bCons (rOwn (fLst aNil)) bNil)))
  (sSeq (sLoop (tBl (eBin neP (eVar 2) (eLst aNil))) Lib.eb_h_mixed_b_1 1000)
  (sRet [0, 1] (eVar 3))))
def Lib.F_h_mixed_b : FSem := fDef 4 [0, 1] Lib.ev_h_mixed_b
def Lib.eb_h_some_tasks_1 : EvS := (sSeq (sAsg (eRes (rCall 2 Lib.F_h_take [] (aCons (eVar 0) (aCons (eBin subP (eRes (rBui lenF (aCons (eVar 2) aNil))) (eCon (.int 1))) aNil)))) (gNm 7))
  (sEx (eMut "list" appendO 5 (aCons (eTup (aCons (eBin ixP (eVar 2) (eVar 7)) (aCons (eBin ixP (eVar 2) (eRes (rBin addA (eRes (rBin addA (eVar 7) (eCon (.int 1)))) (eRes (rCall 2 Lib.F_h_take [] (aCons (eVar 0) (aCons (eBin subP (eBin subP (eRes (rBui lenF (aCons (eVar 2) aNil))) (eVar 7)) (eCon (.int 1))) aNil))))))) aNil))) aNil))))
def Lib.ev_h_some_tasks : EvS := (sSeq (sAsg (eRes (rCall 2 Lib.F_h_mixed_b [] (aCons (eVar 0) (aCons (eLst (aCons (eCon (.str "pay")) (aCons (eCon (.str "hold")) (aCons (eCon (.str "book")) (aCons (eCon (.str "mail")) (aCons (eCon (.str "a")) (aCons (eCon (.str "ab")) (aCons (eCon (.str "abc")) (aCons (eCon (.str "zzzz")) (aCons (eCon (.str "made")) aNil)))))))))) aNil)))) (gNm 2))
  (sSeq (sAsg (eRes (rSl (eVar 2) oNo (oSo (eRes (rCall 2 Lib.F_h_take [] (aCons (eVar 0) (aCons (eRes (rBin addA (eVar 1) (eCon (.int 1)))) aNil))))))) (gNm 2))
  (sSeq (sAsg (eOf (fComp (iAny [0, 1] (eVar 2)) (gNm 4) tYesT (eTup (aCons (eVar 4) (aCons (eBin gtP (eRes (rCall 2 Lib.F_h_take [] (aCons (eVar 0) (aCons (eCon (.int 3)) aNil)))) (eCon (.int 0))) (aCons (eBin eqP (eRes (rCall 2 Lib.F_h_take [] (aCons (eVar 0) (aCons (eCon (.int 3)) aNil)))) (eCon (.int 0))) aNil)))) [4])) (gNm 3))
  (sSeq (sOwn 5 (fLst aNil))
  (sSeq (sFor (iRngA (aCons (eIf (tBl (eBin gtP (eRes (rBui lenF (aCons (eVar 2) aNil))) (eCon (.int 1)))) (eRes (rCall 2 Lib.F_h_take [] (aCons (eVar 0) (aCons (eCon (.int 4)) aNil)))) (eCon (.int 0))) aNil)) (gNm 6) Lib.eb_h_some_tasks_1)
  (sRet [0, 1] (eTup (aCons (eRes (rCall 2 Lib.F_h_mixed_b [] (aCons (eVar 0) (aCons (eVar 3) aNil)))) (aCons (eFrz [0, 1] (eVar 5)) aNil)))))))))
def Lib.F_h_some_tasks : FSem := fDef 8 [0, 1] Lib.ev_h_some_tasks
namespace Lk54
abbrev ks : List Nat := [14, 15]
def tb__law_word (w : EvR) : EvS := (sSeq (sAsg (eCon (.str "made")) (gNm 1))
  (sSeq (sTryT [0] 2 [0] [24] [24] (sEx (eRes w)) (fun y => (sAsg (eIf (tAn (tTru (eXi [24] y)) (tNt (tTru (eXi [] y)))) (eXf y "word") (eCon (.str "other"))) (gNm 1))))
  (sRet [0] (eVar 1))))
def eb_law_1 : EvS := (sAsg (eTup (aCons (eRes (rCall 2 Lib.F_h_pick_b [] (aCons (eVar 2) (aCons (eVar 3) aNil)))) (aCons (eRes (rCall 2 Lib.F_h_pick_b [] (aCons (eVar 2) (aCons (eVar 3) aNil)))) (aCons (eRes (rCall 2 Lib.F_h_pick_b [] (aCons (eVar 2) (aCons (eVar 3) aNil)))) aNil)))) (gTpL 3 (gsCons (gNm 5) (gsCons (gNm 6) (gsCons (gNm 7) gsNil)))))
def eb_law_2 : EvS := (sAsg (eIf (tBl (eBin eqP (eRes (rCall 2 Lib.F_h_take [] (aCons (eVar 2) (aCons (eCon (.int 2)) aNil)))) (eCon (.int 0)))) (eVar 6) (eCon (.bl true))) (gNm 6))
def eb_law_3 : EvS := (sIf (tBl (eBin neP (eRes (rTold 3 [] tb__law_word (eRes (rMake 14 4 (Lib.F_Task___init__ ks) [] (aCons (eVar 5) (aCons (eVar 6) (aCons (eVar 7) aNil))))))) (eRes (rCall 3 (Lib.F_h_task_due ks) [] (aCons (eVar 5) (aCons (eVar 6) (aCons (eVar 7) aNil))))))) (sRet [] (eCon (.bl false))) sSkip)
def eb_law_4 : EvS := (sSeq eb_law_1
  (sSeq eb_law_2
  eb_law_3))
def eb_law_5 : EvS := (sIf (tBl (eBin neP (eRes (rTold 3 [] tb__law_word (eRes (rMake 15 3 (Lib.F_Tasks___init__ ks) [] (aCons (eVar 13) (aCons (eCon .non) aNil)))))) (eCon (.str "tasks")))) (sRet [] (eCon (.bl false))) sSkip)
def eb_law_6 : EvS := (sIf (tBl (eBin neP (eRes (rTold 3 [] tb__law_word (eRes (rMake 15 3 (Lib.F_Tasks___init__ ks) [] (aCons (eVar 10) (aCons (eVar 16) aNil)))))) (eCon (.str "needs")))) (sRet [] (eCon (.bl false))) sSkip)
def eb_law_7 : EvS := (sOwn 2 (fRes (rCall 2 Lib.F_h_feed [] (aCons (eScr 0) (aCons (eVar 1) aNil)))))
def eb_law_8 : EvS := (sAsg (eLst (aCons (eCon (.str "")) (aCons (eCon (.str "abcde")) (aCons (eCon (.str "A")) (aCons (eCon (.str "a1")) (aCons (eCon (.str "none")) (aCons (eCon (.str "work")) (aCons (eCon (.str "any")) (aCons (eCon (.str "pay")) (aCons (eCon (.str "a")) (aCons (eCon .non) (aCons (eCon (.int 0)) (aCons (eCon (.int 1)) (aCons (eCon (.bl true)) (aCons (eCon (.bl false)) aNil))))))))))))))) (gNm 3))
def eb_law_9 : EvS := (sAsg (eRes (rBin addA (eVar 3) (eLst (aCons (eLst (aCons (eCon (.str "a")) aNil)) (aCons (eTup (aCons (eCon (.str "a")) aNil)) (aCons (eRes (rMake 15 3 (Lib.F_Tasks___init__ ks) [.tup []] (aCons (eLst aNil) aNil))) aNil)))))) (gNm 3))
def eb_law_10 : EvS := (sFor (iRngA (aCons (eCon (.int 8)) aNil)) (gNm 4) eb_law_4)
def eb_law_11 : EvS := (sAsg (eRes (rCall 2 Lib.F_h_some_tasks [] (aCons (eVar 2) (aCons (eCon (.int 5)) aNil)))) (gTpL 2 (gsCons (gNm 8) (gsCons (gNm 9) gsNil))))
def eb_law_12 : EvS := (sAsg (eRes (rBin addA (eOf (fComp (iAny [] (eVar 8)) (gTpL 3 (gsCons (gNm 5) (gsCons (gNm 6) (gsCons (gNm 7) gsNil)))) tYesT (eRes (rMake 14 4 (Lib.F_Task___init__ ks) [] (aCons (eVar 5) (aCons (eVar 6) (aCons (eVar 7) aNil))))) [5, 6, 7])) (eLst (aCons (eRes (rMake 14 4 (Lib.F_Task___init__ ks) [.bl true, .bl false] (aCons (eCon (.str "x")) aNil))) (aCons (eRes (rMake 14 4 (Lib.F_Task___init__ ks) [.bl false] (aCons (eCon (.str "y")) (aCons (eCon (.bl false)) aNil)))) aNil))))) (gNm 10))
def eb_law_13 : EvS := (sAsg (eOf (fComp (iAny [] (eVar 10)) (gNm 12) tYesT (eFl [2, 14] ks "name" (eVar 12)) [12])) (gNm 11))
def eb_law_14 : EvS := (sIf (tBl (eBin neP (eRes (rTold 3 [] tb__law_word (eRes (rMake 15 3 (Lib.F_Tasks___init__ ks) [] (aCons (eVar 10) (aCons (eVar 9) aNil)))))) (eCon (.str "made")))) (sRet [] (eCon (.bl false))) sSkip)
def eb_law_15 : EvS := (sIf (tBl (eBin neP (eRes (rTold 3 [] tb__law_word (eRes (rMake 15 3 (Lib.F_Tasks___init__ ks) [] (aCons (eRes (rBui tupleF (aCons (eVar 10) aNil))) (aCons (eRes (rBui tupleF (aCons (eVar 9) aNil))) aNil)))))) (eCon (.str "made")))) (sRet [] (eCon (.bl false))) sSkip)
def eb_law_16 : EvS := (sFor (iAny [] (eTup (aCons (eCon .non) (aCons (eCon (.int 0)) (aCons (eCon (.str "x")) (aCons (eRes (rBin addA (eVar 10) (eLst (aCons (eCon .non) aNil)))) (aCons (eRes (rBin addA (eVar 10) (eLst (aCons (eCon (.str "x")) aNil)))) (aCons (eLst (aCons (eVar 10) aNil)) (aCons (eRes (rMake 14 4 (Lib.F_Task___init__ ks) [.bl true, .bl false] (aCons (eCon (.str "x")) aNil))) aNil))))))))) (gNm 13) eb_law_5)
def eb_law_17 : EvS := (sAsg (eRes (rCall 2 Lib.F_h_take [] (aCons (eVar 2) (aCons (eRes (rBui lenF (aCons (eVar 10) aNil))) aNil)))) (gNm 14))
def eb_law_18 : EvS := (sIf (tBl (eBin neP (eRes (rTold 3 [] tb__law_word (eRes (rMake 15 3 (Lib.F_Tasks___init__ ks) [] (aCons (eRes (rBin addA (eVar 10) (eLst (aCons (eRes (rMake 14 4 (Lib.F_Task___init__ ks) [] (aCons (eBin ixP (eVar 11) (eVar 14)) (aCons (eCon (.bl false)) (aCons (eCon (.bl true)) aNil))))) aNil)))) (aCons (eCon .non) aNil)))))) (eCon (.str "name")))) (sRet [] (eCon (.bl false))) sSkip)
def eb_law_19 : EvS := (sAsg (eLst (aCons (eTup (aCons (eCon (.str "x")) (aCons (eCon (.str "qqqq")) aNil))) (aCons (eLst (aCons (eCon (.str "x")) (aCons (eCon (.str "y")) aNil))) (aCons (eTup (aCons (eCon (.str "x")) aNil)) (aCons (eTup (aCons (eCon (.str "x")) (aCons (eCon (.str "y")) (aCons (eCon (.str "x")) aNil)))) (aCons (eCon (.str "xy")) (aCons (eCon .non) (aCons (eTup (aCons (eCon (.int 0)) (aCons (eCon (.str "x")) aNil))) (aCons (eTup (aCons (eLst (aCons (eCon (.str "x")) aNil)) (aCons (eCon (.str "y")) aNil))) aNil))))))))) (gNm 15))
def eb_law_20 : EvS := (sFor (iAny [] (eTup (aCons (eCon .non) (aCons (eCon (.int 0)) (aCons (eCon (.str "x")) (aCons (eTup (aCons (eCon (.str "x")) (aCons (eCon (.str "y")) aNil))) (aCons (eRes (rBin addA (eVar 9) (eLst (aCons (eRes (rCall 2 Lib.F_h_pick_b [] (aCons (eVar 2) (aCons (eVar 15) aNil)))) aNil)))) aNil))))))) (gNm 16) eb_law_6)
def eb_law_21 : EvS := (sAsg (eRes (rSl (eRes (rCall 2 Lib.F_h_mixed_b [] (aCons (eVar 2) (aCons (eVar 11) aNil)))) oNo (oSo (eRes (rBin addA (eCon (.int 1)) (eRes (rCall 2 Lib.F_h_take [] (aCons (eVar 2) (aCons (eRes (rBui lenF (aCons (eVar 11) aNil))) aNil))))))))) (gNm 17))
def eb_law_22 : EvS := (sAsg (eOf (fComp (iRngA (aCons (eRes (rBui lenF (aCons (eVar 17) aNil))) aNil)) (gNm 14) tYesT (eTup (aCons (eBin ixP (eVar 17) (eVar 14)) (aCons (eBin ixP (eVar 17) (eBin modP (eRes (rBin addA (eVar 14) (eCon (.int 1)))) (eRes (rBui lenF (aCons (eVar 17) aNil))))) aNil))) [14])) (gNm 18))
def eb_law_23 : EvS := (sIf (tBl (eBin neP (eRes (rToldB 3 2 [] tb__law_word (eRes (rMake 15 3 (Lib.F_Tasks___init__ ks) [] (aCons (eVar 10) (aCons (eRes (rCall 2 Lib.F_h_mixed_b [] (aCons (eVar 2) (aCons (eRes (rBin addA (eVar 18) (eVar 9))) aNil)))) aNil)))))) (eCon (.str "ring")))) (sRet [] (eCon (.bl false))) sSkip)
def eb_law_24 : EvS := (sIf (tBl (eBin neP (eRes (rTold 3 [] tb__law_word (eRes (rMake 15 3 (Lib.F_Tasks___init__ ks) [] (aCons (eVar 10) (aCons (eRes (rBin addA (eVar 9) (eVar 9))) aNil)))))) (eCon (.str "made")))) (sRet [] (eCon (.bl false))) sSkip)
def eb_law_25 : EvS := (sSeq eb_law_7
  (sSeq eb_law_8
  (sSeq eb_law_9
  (sSeq eb_law_10
  (sSeq eb_law_11
  (sSeq eb_law_12
  (sSeq eb_law_13
  (sSeq eb_law_14
  (sSeq eb_law_15
  (sSeq eb_law_16
  (sSeq eb_law_17
  (sSeq eb_law_18
  (sSeq eb_law_19
  (sSeq eb_law_20
  (sSeq eb_law_21
  (sSeq eb_law_22
  (sSeq eb_law_23
  eb_law_24)))))))))))))))))
def ev_law : EvS := (sSeq (sFor (iRngA (aCons (eRes (rBui maxF (aCons (eCon (.int 1)) (aCons (eRes (rBui minF (aCons (eCon (.int 3)) (aCons (eRes (rBui lenF (aCons (eScr 0) aNil))) aNil)))) aNil)))) aNil)) (gNm 1) eb_law_25)
  (sRet [] (eCon (.bl true))))
def F_law : FSem := fLaw 19 ev_law
end Lk54
end
section
namespace TreeL
open PySem PySem.Spec PyProof.Rows L2
theorem wipe_back {env : En} {j : Nat} {x : Option Arg} (hj : env[j]? = some none) : wipeE (env.set j x) [j] = env := by
  simp only [wipeE]
  rw [List.set_set]
  apply List.ext_getElem?
  intro k
  rw [List.getElem?_set]
  by_cases e : j = k
  · subst e
    have := (List.getElem?_eq_some_iff.mp hj).1
    rw [if_pos rfl, if_pos this, hj]
  · rw [if_neg e]
theorem compX {α : Type} {et : EvT} {ea : EvE} {al : En → Bool} {env : En} {j : Nat} (h : α → PV) (p : α → Bool) (f : α → PV) (hal : al env = true) (hj : env[j]? = some none) : ∀ (xs : List α) (acc : List PV), acc.length + xs.length ≤ 1000000 →
    (∀ x ∈ xs, et (env.set j (some (.t (h x)))) = .ok (p x) (env.set j (some (.t (h x)))) ∧ (p x = true → ea (env.set j (some (.t (h x)))) = .ok (.tr (f x)) (env.set j (some (.t (h x)))))) → compL (gNm j) et ea [j] al (xs.map h) acc env = .ok (acc ++ (xs.filter p).map f) env
  | [], acc, _, _ => by simp [compL, hal]
  | x :: xs, acc, hl, hs => by
    rw [List.length_cons] at hl
    have hlt : acc.length < LIM := by unfold LIM; omega
    obtain ⟨s1, s2⟩ := hs x List.mem_cons_self
    cases hp : p x with
    | true =>
      have r := compX (et := et) (ea := ea) (al := al) h p f hal hj xs (acc ++ [f x]) (by rw [List.length_append, List.length_singleton]; omega) fun y hy => hs y (List.mem_cons_of_mem _ hy)
      rw [hp] at s1
      simp only [List.map_cons, compL, hal, gNm, s1, s2 hp, hlt, if_true, wipe_back hj, List.filter_cons, hp]
      refine Eq.trans r ?_
      simp
    | false =>
      have r := compX (et := et) (ea := ea) (al := al) h p f hal hj xs acc (by omega) fun y hy => hs y (List.mem_cons_of_mem _ hy)
      rw [hp] at s1
      simp only [List.map_cons, compL, hal, gNm, s1, if_true, if_false, Bool.false_eq_true, wipe_back hj, List.filter_cons, hp]
      exact r
theorem compY {α : Type} {ea : EvE} {al : En → Bool} {env : En} {j : Nat} (h f : α → PV) (hal : al env = true) (hj : env[j]? = some none) (xs : List α) (hl : xs.length ≤ 1000000)
    (hs : ∀ x ∈ xs, ea (env.set j (some (.t (h x)))) = .ok (.tr (f x)) (env.set j (some (.t (h x))))) : compL (gNm j) tYesT ea [j] al (xs.map h) [] env = .ok (xs.map f) env := by
  have r := compX (et := tYesT) (ea := ea) (al := al) h (fun _ => true) f hal hj xs [] (by simpa using hl) fun x hx => ⟨rfl, fun _ => hs x hx⟩
  rw [r, List.filter_eq_self.mpr fun _ _ => rfl]
  rfl
theorem boolsP_map {α : Type} (p : α → Bool) : ∀ xs : List α, boolsP (xs.map fun x => PV.bl (p x)) = some (xs.map p)
  | [] => rfl
  | x :: xs => by simp [boolsP, boolsP_map p xs]
theorem allF_map {α : Type} (p : α → Bool) (xs : List α) : allF [.lst (xs.map fun x => PV.bl (p x))] = some (.t (.bl (xs.all p))) := by
  simp only [allF, boolsP_map, Option.map_some]
  rw [show (xs.map p).all id = xs.all p by rw [List.all_map]; rfl]
theorem anyF_map {α : Type} (p : α → Bool) (xs : List α) : anyF [.lst (xs.map fun x => PV.bl (p x))] = some (.t (.bl (xs.any p))) := by
  simp only [anyF, boolsP_map, Option.map_some]
  rw [show (xs.map p).any id = xs.any p by rw [List.any_map]; rfl]
theorem strsP_map (ss : List Str) : strsP (ss.map PV.str) = some ss := by
  induction ss with
  | nil => rfl
  | cons x r ih => simp [strsP, ih]
def Sh (k : Nat) (x : Str) : Prop := x.length ≤ k ∧ ∀ c ∈ TL.tl x, c < 0x110000
theorem Sh.mono {k m : Nat} {x : Str} (h : Sh k x) (l : k ≤ m) : Sh m x := ⟨Nat.le_trans h.1 l, h.2⟩
end TreeL
end
section
namespace Tk
open PySem PySem.Spec PyProof.Rows L2 TreeL
@[local simp] theorem LIM_eqta : LIM = 1000000 := rfl
theorem unset {env : En} {j : Nat} (h : env[j]? = some none) : env.set j none = env := by
  apply List.ext_getElem?
  intro k
  rw [List.getElem?_set]
  by_cases e : j = k
  · subst e
    rw [if_pos rfl, if_pos (List.getElem?_eq_some_iff.mp h).1, h]
  · rw [if_neg e]
theorem comp_e {α : Type} {ei : EvI} {et : EvT} {ea : EvE} {env : En} {j : Nat} {a : Vl} (h : α → PV) (p : α → Bool) (f : α → PV) {xs : List α} (hi : ei env = .ok ⟨xs.map h, a⟩ env) (hal : alive a (xs.map h) env = true) (hj : env[j]? = some none) (hl : xs.length ≤ 1000000)
    (hs : ∀ x ∈ xs, et (env.set j (some (.t (h x)))) = .ok (p x) (env.set j (some (.t (h x)))) ∧ (p x = true → ea (env.set j (some (.t (h x)))) = .ok (.tr (f x)) (env.set j (some (.t (h x)))))) :
    eOf (fComp ei (gNm j) et ea [j]) env = .ok (.tr (.lst ((xs.filter p).map f))) env := by
  have cc := compX (et := et) (ea := ea) (al := alive a (xs.map h)) (env := env) (j := j) h p f hal hj xs [] (by simpa using hl) hs
  rw [List.nil_append] at cc
  have no : noOwn env [j] = true := by simp [hj]
  have un : unW env env [j] = env := by simp [hj, unset hj]
  have we : wipeE env [j] = env := by simp [unset hj]
  unfold eOf fComp
  rw [hi]
  simp only [RE.bind, no, if_true, we, cc, un, OS.tree]
theorem comp_m {α : Type} {ei : EvI} {ea : EvE} {env : En} {j : Nat} {a : Vl} (h f : α → PV) {xs : List α} (hi : ei env = .ok ⟨xs.map h, a⟩ env) (hal : alive a (xs.map h) env = true) (hj : env[j]? = some none) (hl : xs.length ≤ 1000000)
    (hs : ∀ x ∈ xs, ea (env.set j (some (.t (h x)))) = .ok (.tr (f x)) (env.set j (some (.t (h x))))) :
    eOf (fComp ei (gNm j) tYesT ea [j]) env = .ok (.tr (.lst (xs.map f))) env := by
  have q := comp_e (et := tYesT) (ea := ea) h (fun _ => true) f hi hal hj hl fun x hx => ⟨rfl, fun _ => hs x hx⟩
  rw [q, List.filter_eq_self.mpr fun _ _ => rfl]
theorem seq_nxR {a b : EvS} {env e : En} (h : a env = .nx e) : sSeq a b env = b e := by unfold sSeq; rw [h]; rfl
abbrev bx (g : List Int) (m : Int) : OS := .boxD g [("mixed", m)]
def IsBoxC (o : OS) : Prop := ∃ g m, o = bx g m ∧ (∀ x ∈ g, 0 ≤ x) ∧ g.length ≤ 60 ∧ 0 ≤ m ∧ m < 2 ^ 31
theorem mg : ((Str.ofString "mixed") = GREAT) = False := by simp only [eq_iff_iff, iff_false]; decide +kernel
theorem dat_ints : ∀ g : List Int, datL 63 (g.map PV.int) = true
  | [] => rfl
  | x :: g => by rw [List.map_cons, datL, dat_ints g]; rfl
theorem ne_ints (g : List Int) : neP (.lst (g.map .int)) (.lst []) = some (.bl (!g.isEmpty)) := by
  have d : dat 64 (.lst (g.map PV.int)) = true := by rw [dat]; exact dat_ints g
  unfold neP
  rw [d]
  cases g <;> rfl
theorem last_ix {g : List Int} (h : g ≠ []) : ixP (.lst (g.map .int)) (.int (-1)) = some (.int (g.getLast h)) := by
  have l : 0 < g.length := List.length_pos_iff.mpr h
  show atI (g.map PV.int) (-1) = _
  have e : ixN g.length (-1) = some (g.length - 1) := by
    unfold ixN
    rw [if_neg (by decide)]
    have : -(g.length : Int) ≤ -1 := by omega
    simp [this]
    omega
  unfold atI
  rw [List.length_map, e, List.getLast_eq_getElem]
  show (g.map PV.int)[g.length - 1]? = _
  rw [List.getElem?_map, List.getElem?_eq_getElem (by omega)]
  rfl
theorem bget_m (g : List Int) (m : Int) (r : En) : eBget 0 "mixed" (some (.ow (bx g m)) :: r) = .ok (.tr (.int m)) (some (.ow (bx g m)) :: r) := by
  simp [eBget, mg]
theorem bput_m {ea : EvE} {env r : En} {g : List Int} {m n : Int} (h : ea env = .ok (.tr (.int n)) (some (.ow (bx g m)) :: r)) : sBput 0 "mixed" ea env = .nx (some (.ow (bx g n)) :: r) := by
  simp [sBput, h, mg, updI]
theorem bpop_m {g : List Int} {m : Int} (r : En) (h : g ≠ []) : eBpop 0 (some (.ow (bx g m)) :: r) = .ok (.tr (.int (g.getLast h))) (some (.ow (bx g.dropLast m)) :: r) := by
  have l : 0 < g.length := List.length_pos_iff.mpr h
  have e : g[g.length - 1]? = some (g.getLast h) := by rw [List.getLast_eq_getElem, List.getElem?_eq_getElem (by omega)]
  simp [eBpop, e]
theorem alNe (g : List Int) (m : Int) (r : En) : (tBl (eAlBin neP 0 (eLst aNil))) (some (.ow (bx g m)) :: r) = .ok (!g.isEmpty) (some (.ow (bx g m)) :: r) := by
  have q := ne_ints g
  simp [q]
theorem alIx {g : List Int} {m : Int} (r : En) (h : g ≠ []) : (tBl (eBin eqP (eAlBin ixP 0 (eUn negP (eCon (.int 1)))) (eCon (.int 0)))) (some (.ow (bx g m)) :: r) = .ok (g.getLast h == 0) (some (.ow (bx g m)) :: r) := by
  have q := last_ix h
  have n1 : negP (.int 1) = some (.int (-1)) := rfl
  have e : eqP (.int (g.getLast h)) (.int 0) = some (.bl (g.getLast h == 0)) := by simp [eqP, dat, peq]
  generalize g.getLast h = x at *
  generalize (x == 0) = B at *
  simp [-negP, n1, q, e]
theorem pops (r : En) : ∀ (k : Nat) (g : List Int) (m : Int), g.length < k → ∃ g', sLoop (tAn (tBl (eAlBin neP 0 (eLst aNil))) (tBl (eBin eqP (eAlBin ixP 0 (eUn negP (eCon (.int 1)))) (eCon (.int 0))))) Lib.eb_h_take_1 k (some (.ow (bx g m)) :: r) = .nx (some (.ow (bx g' m)) :: r) ∧ (∀ x ∈ g', x ∈ g) ∧ g'.length ≤ g.length
  | 0, g, m, h => absurd h (Nat.not_lt_zero _)
  | k + 1, g, m, h => by
    have n := alNe g m r
    rw [sLoop]
    by_cases e : g = []
    · subst e
      refine ⟨[], ?_, fun x h => h, Nat.le_refl _⟩
      unfold tAn
      rw [n]
      rfl
    · have i := alIx (m := m) r e
      have ie : (!g.isEmpty) = true := by cases g <;> first | exact absurd rfl e | rfl
      rw [ie] at n
      have c : tAn (tBl (eAlBin neP 0 (eLst aNil))) (tBl (eBin eqP (eAlBin ixP 0 (eUn negP (eCon (.int 1)))) (eCon (.int 0)))) (some (.ow (bx g m)) :: r) = .ok (g.getLast e == 0) (some (.ow (bx g m)) :: r) := by
        unfold tAn
        rw [n]
        exact i
      rw [c]
      cases z : (g.getLast e == 0) with
      | false => exact ⟨g, rfl, fun x h => h, Nat.le_refl _⟩
      | true =>
        obtain ⟨g', q1, q2, q3⟩ := pops r k g.dropLast m (by rw [List.length_dropLast]; have := List.length_pos_iff.mpr e; omega)
        refine ⟨g', ?_, fun x h => (List.dropLast_sublist g).subset (q2 x h), by rw [List.length_dropLast] at q3; omega⟩
        rw [← q1]
        have p := bpop_m (m := m) r e
        show (match Lib.eb_h_take_1 (some (.ow (bx g m)) :: r) with
          | .nx e' => _
          | .ct e' => _
          | .bk e' => _
          | o => o) = _
        have b : Lib.eb_h_take_1 (some (.ow (bx g m)) :: r) = .nx (some (.ow (bx g.dropLast m)) :: r) := by
          unfold Lib.eb_h_take_1 sEx
          rw [p]
          rfl
        rw [b]
theorem take_spec {o : OS} {w : Int} (hb : IsBoxC o) (h0 : 0 < w) (hw : w < 2 ^ 40) : ∃ (k : Int) (o' : OS), Lib.F_h_take [.ow o, .t (.int w)] = .ret (.t (.int k)) [.ow o', .t (.int w)] ∧ 0 ≤ k ∧ k < w ∧ IsBoxC o' := by
  obtain ⟨g, m, rfl, hg, hl, m0, m1⟩ := hb
  have lw : w.natAbs.log2 < 9000 := Nat.lt_of_lt_of_le (log2_lt (k := 40) (by omega) (by decide)) (by decide)
  have l32 : Nat.log2 32 < 9000 := by decide +kernel
  obtain ⟨g', q1, q2, q3⟩ := pops [some (.t (.int w)), none, none] 1000 g m (by omega)
  have hg' : ∀ x ∈ g', 0 ≤ x := fun x h => hg x (q2 x h)
  by_cases e : g' = []
  · subst e
    have p0 := A.mul_ok (i := m) (j := 48271) m0 (by omega) (by decide) (by decide)
    obtain ⟨a, ha⟩ : ∃ a, a = (m * 48271 + 19) % 2147483647 := ⟨_, rfl⟩
    have ra : 0 ≤ a ∧ a < 2147483647 := by rw [ha]; exact ⟨Int.emod_nonneg _ (by decide), Int.emod_lt_of_pos _ (by decide)⟩
    refine ⟨(a / 32) % w, bx [] a, ?_, Int.emod_nonneg _ (by omega), Int.emod_lt_of_pos _ h0, [], a, rfl, by simp, by simp, ra.1, by omega⟩
    have b1 := bget_m [] m [some (.t (.int w)), none, none]
    have b2 := bget_m [] a [some (.t (.int w)), none, none]
    have pu := bput_m (ea := eBin modP (eRes (rBui intF (aCons (eRes (rBin addA (eRes (rBin mulA (eBget 0 "mixed") (eCon (.int 48271)))) (eCon (.int 19)))) aNil))) (eCon (.int 2147483647))) (env := [some (.ow (bx [] m)), some (.t (.int w)), none, none]) (g := []) (m := m) (n := a) (r := [some (.t (.int w)), none, none]) (by
      simp [b1, p0, addA, intF, ha])
    have n := alNe [] m [some (.t (.int w)), none, none]
    unfold Lib.F_h_take
    rw [fDef_of rfl, show env0 4 [Arg.ow (bx g m), Arg.t (.int w)] = [some (.ow (bx g m)), some (.t (.int w)), none, none] from rfl]
    have bd : Lib.ev_h_take [some (.ow (bx g m)), some (.t (.int w)), none, none] = .rt (.t (.int ((a / 32) % w))) [some (.ow (bx [] a)), some (.t (.int w)), none, none] := by
      unfold Lib.ev_h_take
      show sSeq _ _ [some (.ow (bx g m)), some (.t (.int w)), none, none] = _
      rw [seq_nxR q1, seq_nxR (e := [some (.ow (bx [] m)), some (.t (.int w)), none, none]) (by unfold sIf; rw [n]; rfl), seq_nxR pu]
      simp [b2, intF, h0, l32]
    rw [bd]
    rfl
  · obtain ⟨x, hx⟩ : ∃ x, x = g'.getLast e := ⟨_, rfl⟩
    have x0 : 0 ≤ x := by rw [hx]; exact hg' _ (List.getLast_mem e)
    refine ⟨x % w, bx (g'.dropLast ++ [x / w]) m, ?_, Int.emod_nonneg _ (by omega), Int.emod_lt_of_pos _ h0, _, m, rfl, fun y hy => ?_, ?_, m0, m1⟩
    · have n := alNe g' m [some (.t (.int w)), none, none]
      have ie : (!g'.isEmpty) = true := by cases g' <;> first | exact absurd rfl e | rfl
      rw [ie] at n
      have p := bpop_m (m := m) [some (.t (.int w)), none, none] e
      rw [← hx] at p
      have ll : g'.length - 1 < 1000000 := by omega
      unfold Lib.F_h_take
      rw [fDef_of rfl, show env0 4 [Arg.ow (bx g m), Arg.t (.int w)] = [some (.ow (bx g m)), some (.t (.int w)), none, none] from rfl]
      have bd : Lib.ev_h_take [some (.ow (bx g m)), some (.t (.int w)), none, none] = .rt (.t (.int (x % w))) [some (.ow (bx (g'.dropLast ++ [x / w]) m)), some (.t (.int w)), none, some (.t (.int x))] := by
        unfold Lib.ev_h_take
        show sSeq _ _ [some (.ow (bx g m)), some (.t (.int w)), none, none] = _
        rw [seq_nxR q1]
        have s2 : ∀ A B : EvS, sIf (tBl (eAlBin neP 0 (eLst aNil))) A B [some (.ow (bx g' m)), some (.t (.int w)), none, none] = A [some (.ow (bx g' m)), some (.t (.int w)), none, none] := fun A B => by unfold sIf; rw [n]; rfl
        unfold sSeq
        rw [s2]
        simp [p, eAlApp, ll, intF, h0, lw]
      rw [bd]
      rfl
    · rcases List.mem_append.mp hy with z | z
      · exact hg' y ((List.dropLast_sublist g').subset z)
      · rw [List.mem_singleton.mp z]; exact Int.ediv_nonneg x0 (by omega)
    · rw [List.length_append, List.length_dropLast, List.length_singleton]
      have := List.length_pos_iff.mpr e
      omega
end Tk
end
section
namespace Tk
open PySem PySem.Spec PyProof.Rows L2 TreeL
@[local simp] theorem LIM_eqtb : LIM = 1000000 := rfl
theorem feed_spec (ns : List Int) {base : Int} (hb : 0 ≤ base ∧ base < 1000) : ∃ o, Lib.F_h_feed [.t (.scr ns), .t (.int base)] = .ret (.ow o) [.t (.scr ns), .t (.int base)] ∧ IsBoxC o := by
  obtain ⟨cs, hcs⟩ : ∃ cs, cs = (ns.drop (HT.sIx ns.length 0 (some base))).take (HT.sIx ns.length ns.length (some (base + 60)) - HT.sIx ns.length 0 (some base)) := ⟨_, rfl⟩
  have lcs : cs.length ≤ 60 := by
    rw [hcs, List.length_take, List.length_drop]
    simp only [HT.sIx, if_neg (show ¬ (base < 0) by omega), if_neg (show ¬ (base + 60 < 0) by omega)]
    omega
  have hcut : cutP (ns.map PV.int) (some base) (some (base + 60)) = cs.map PV.int := by rw [cutP_map, hcs]
  have q1 := comp_m (ei := iAny [0, 1] (eRes (rSl (eVar 0) (oSo (eVar 1)) (oSo (eRes (rBin addA (eVar 1) (eCon (.int 60)))))))) (ea := eRes (rBui absF (aCons (eRes (rBui intF (aCons (eVar 3) aNil))) aNil))) (env := [some (.t (.scr ns)), some (.t (.int base)), none, none, none]) (j := 3) (a := .tr .non) PV.int (fun i => PV.int (A.absI i)) (xs := cs) (by
    simp [slA, addA, hcut]) rfl rfl (by omega) (fun i _ => by simp [absF, intF, A.absI])
  obtain ⟨ds, hds⟩ : ∃ ds, ds = cs.map A.absI := ⟨_, rfl⟩
  have e1 : (cs.map fun i => PV.int (A.absI i)) = ds.map PV.int := by rw [hds, List.map_map]; rfl
  rw [e1] at q1
  have lds : ds.length ≤ 60 := by rw [hds, List.length_map]; exact lcs
  have nds : ∀ d ∈ ds, 0 ≤ d := fun d hd => by
    rw [hds] at hd
    obtain ⟨i, _, rfl⟩ := List.mem_map.mp hd
    unfold A.absI; split <;> omega
  have s1 : sAsg (eOf (fComp (iAny [0, 1] (eRes (rSl (eVar 0) (oSo (eVar 1)) (oSo (eRes (rBin addA (eVar 1) (eCon (.int 60)))))))) (gNm 3) tYesT (eRes (rBui absF (aCons (eRes (rBui intF (aCons (eVar 3) aNil))) aNil))) [3])) (gNm 2) [some (.t (.scr ns)), some (.t (.int base)), none, none, none] = .nx [some (.t (.scr ns)), some (.t (.int base)), some (.t (.lst (ds.map .int))), none, none] := by
    generalize eOf (fComp _ _ _ _ _) = E at q1 ⊢
    generalize ds.map PV.int = D at *
    simp [q1]
  have pb := A.mul_ok (i := 17) (j := base) (by decide) (by decide) hb.1 (by omega)
  have s2 : sAsg (eRes (rBin addA (eCon (.int 50131)) (eRes (rBin mulA (eCon (.int 17)) (eVar 1))))) (gNm 4) [some (.t (.scr ns)), some (.t (.int base)), some (.t (.lst (ds.map .int))), none, none] = .nx [some (.t (.scr ns)), some (.t (.int base)), some (.t (.lst (ds.map .int))), none, some (.t (.int (50131 + 17 * base)))] := by
    generalize ds.map PV.int = D at *
    simp [addA, pb]
  have s3 : ∃ e, sFor (iAny [0, 1] (eVar 2)) (gNm 3) Lib.eb_h_feed_1 [some (.t (.scr ns)), some (.t (.int base)), some (.t (.lst (ds.map .int))), none, some (.t (.int (50131 + 17 * base)))] = .nx e ∧
      ∃ x m, e = [some (.t (.scr ns)), some (.t (.int base)), some (.t (.lst (ds.map .int))), x, some (.t (.int m))] ∧ (x = none ∨ ∃ t, x = some (.t t)) ∧ 0 ≤ m ∧ m < 2 ^ 31 := by
    refine sat_nx ?_
    simp only [sFor, iAny, iSeq, eVar, RE.bind, RE.so, List.getElem?_cons_succ, List.getElem?_cons_zero]
    refine loopF_sat (fun ts e => (∀ t ∈ ts, t ∈ ds.map PV.int) ∧ ∃ x m, e = [some (.t (.scr ns)), some (.t (.int base)), some (.t (.lst (ds.map .int))), x, some (.t (.int m))] ∧ (x = none ∨ ∃ t, x = some (.t t)) ∧ 0 ≤ m ∧ m < 2 ^ 31) (fun _ _ _ => rfl) (fun _ h => h.2) ?_ _ _ ⟨fun _ h => h, _, _, rfl, .inl rfl, by omega, by omega⟩
    rintro t ts env ⟨h1, x, m, rfl, _, h2, h3⟩
    obtain ⟨i, hi, rfl⟩ := List.mem_map.mp (h1 t List.mem_cons_self)
    refine ⟨_, rfl, ?_⟩
    have p0 := A.mul_ok (i := m) (j := 48271) h2 (by omega) (by decide) (by decide)
    simp [Lib.eb_h_feed_1, addA, intF, p0, SO.Sat]
    refine ⟨fun t ht => by simpa using h1 t (List.mem_cons_of_mem _ ht), _, _, ⟨rfl, rfl⟩, .inr ⟨_, rfl⟩, Int.emod_nonneg _ (by decide), ?_⟩
    have := Int.emod_lt_of_pos (m * 48271 + i % 2147483587 + 7) (b := 2147483647) (by decide)
    omega
  obtain ⟨e, lp, x, m, rfl, hx, m0, m1⟩ := s3
  have q2 : ∀ x, (x = none ∨ ∃ t, x = some (.t t)) → eOf (fComp (iAny [0, 1] (eVar 2)) (gNm 3) (tBl (eBin geP (eVar 3) (eBin powP (eCon (.int 10)) (eCon (.int 18))))) (eVar 3) [3]) [some (.t (.scr ns)), some (.t (.int base)), some (.t (.lst (ds.map .int))), x, some (.t (.int m))] =
      .ok (.tr (.lst ((ds.filter fun d => decide (10 ^ 18 ≤ d)).map PV.int))) [some (.t (.scr ns)), some (.t (.int base)), some (.t (.lst (ds.map .int))), x, some (.t (.int m))] := fun x hx => by
    have q := compX (et := tBl (eBin geP (eVar 3) (eBin powP (eCon (.int 10)) (eCon (.int 18))))) (ea := eVar 3) (al := alive (.tr .non) (ds.map PV.int)) (env := [some (.t (.scr ns)), some (.t (.int base)), some (.t (.lst (ds.map .int))), none, some (.t (.int m))]) (j := 3) PV.int (fun d => decide (10 ^ 18 ≤ d)) PV.int rfl rfl ds [] (by simp; omega) (fun d _ => ⟨by simp [powP], fun _ => by simp⟩)
    rw [List.nil_append] at q
    generalize tBl (eBin geP (eVar 3) (eBin powP (eCon (.int 10)) (eCon (.int 18)))) = T at *
    generalize (ds.filter fun d => decide (10 ^ 18 ≤ d)).map PV.int = F at *
    generalize ds.map PV.int = D at *
    rcases hx with rfl | ⟨t, rfl⟩ <;> simp [q]
  refine ⟨bx (ds.filter fun d => decide (10 ^ 18 ≤ d)).reverse m, ?_, _, m, rfl, fun y hy => nds y (List.mem_filter.mp (List.mem_reverse.mp hy)).1, ?_, m0, m1⟩
  · unfold Lib.F_h_feed
    rw [fDef_of rfl, show env0 5 [Arg.t (.scr ns), Arg.t (.int base)] = [some (.t (.scr ns)), some (.t (.int base)), none, none, none] from rfl]
    unfold Lib.ev_h_feed
    rw [seq_nxR s1, seq_nxR s2, seq_nxR lp]
    clear q1 s1 s2 lp
    have q2 := q2 x hx
    have ri := intsP_rev (ds.filter fun d => decide (10 ^ 18 ≤ d))
    generalize (ds.filter fun d => decide (10 ^ 18 ≤ d)).reverse = RR at *
    generalize (ds.filter fun d => decide (10 ^ 18 ≤ d)).map PV.int = F at *
    generalize eOf (fComp _ _ _ _ _) = E at *
    generalize ds.map PV.int = D at *
    rcases hx with rfl | ⟨t, rfl⟩ <;> simp [q2, fBox, ri, bPairs]
  · rw [List.length_reverse]
    exact Nat.le_trans (List.length_filter_le _ _) lds
theorem pick_spec {o : OS} {xs : List PV} (h : IsBoxC o) (h0 : 0 < xs.length) (hm : xs.length < 2 ^ 30) : ∃ x o', Lib.F_h_pick_b [.ow o, .t (.lst xs)] = .ret (.t x) [.ow o', .t (.lst xs)] ∧ x ∈ xs ∧ IsBoxC o' := by
  obtain ⟨r, o', q, r0, r1, hb⟩ := take_spec (w := xs.length) h (by omega) (by omega)
  obtain ⟨x, qx, hx⟩ := atI_in r0 r1
  refine ⟨x, o', ?_, hx, hb⟩
  simp [Lib.F_h_pick_b, fDef, Lib.ev_h_pick_b, lenF, q, ixP, qx]
theorem mixed_spec {o : OS} {xs : List PV} (h : IsBoxC o) (hm : xs.length < 1000) (hd : ∀ x ∈ xs, dat 63 x = true) :
    ∃ ys o', Lib.F_h_mixed_b [.ow o, .t (.lst xs)] = .ret (.ow (.lst ys)) [.ow o', .t (.lst xs)] ∧ ys.Perm xs ∧ IsBoxC o' := by
  have lp : ∃ e, sLoop (tBl (eBin neP (eVar 2) (eLst aNil))) Lib.eb_h_mixed_b_1 1000 [some (.ow o), some (.t (.lst xs)), some (.ow (.lst xs)), some (.ow (.lst []))] = .nx e ∧
      ∃ o' ys, e = [some (.ow o'), some (.t (.lst xs)), some (.ow (.lst [])), some (.ow (.lst ys))] ∧ ys.Perm xs ∧ IsBoxC o' := by
    refine sat_nx ?_
    refine sLoop_sat (fun m e => ∃ o' ls ys, e = [some (.ow o'), some (.t (.lst xs)), some (.ow (.lst ls)), some (.ow (.lst ys))] ∧ (ys ++ ls).Perm xs ∧ m = ls.length ∧ IsBoxC o') ?_ 1000 xs.length _ hm ⟨o, xs, [], rfl, by simp, rfl, h⟩
    rintro m env ⟨o', ls, ys, rfl, hp, rfl, hb⟩
    have hdl : datL 63 ls = true := by
      rw [datL_all, List.all_eq_true]
      exact fun x hx => hd x (hp.subset (List.mem_append_right _ hx))
    have hlen := hp.length_eq
    rw [List.length_append] at hlen
    cases ls with
    | nil =>
      refine ⟨false, _, by simp [neP, dat, datL, peq, peqL]; rfl, ?_⟩
      simp at hp
      exact ⟨o', ys, rfl, hp, hb⟩
    | cons l ls =>
      have hd1 : dat 63 l = true := hd l (hp.subset (List.mem_append_right _ List.mem_cons_self))
      have hd2 : datL 63 ls = true := by rw [datL_all, List.all_eq_true] at hdl ⊢; exact fun x hx => hdl x (List.mem_cons_of_mem _ hx)
      refine ⟨true, _, by simp [neP, dat, hd1, hd2, datL, peq, peqL]; rfl, ?_⟩
      rw [if_pos rfl]
      rw [List.length_cons] at hlen
      obtain ⟨r, o2, q, r0, r1, hb2⟩ := take_spec (w := (l :: ls).length) hb (by simp only [List.length_cons]; omega) (by simp only [List.length_cons]; omega)
      have hr : r.toNat < (l :: ls).length := by omega
      have hsi : seqIndex? r (ls.length + 1) = some r.toNat := by
        rw [List.length_cons] at r1
        have h1 : ¬ r < 0 := by omega
        simp only [seqIndex?, if_neg h1]
        have h2 : r < (((ls.length + 1 : Nat)) : Int) := r1
        have h3 : r < (ls.length : Int) + 1 := by omega
        simp [r0, h3]
      have hx : (l :: ls)[r.toNat]? = some (l :: ls)[r.toNat] := List.getElem?_eq_getElem hr
      have hbd : -9223372036854775808 ≤ r ∧ r < 9223372036854775808 := by rw [List.length_cons] at r1; omega
      have hyl : ys.length < 1000000 := by omega
      have q' : Lib.F_h_take [.ow o', .t (.int ((ls.length : Int) + 1))] = .ret (.t (.int r)) [.ow o2, .t (.int ((ls.length : Int) + 1))] := by simpa using q
      simp [Lib.eb_h_mixed_b_1, eMut, isTyO, lenF, q', popO, hbd, hsi, hx, appendO, hyl, SO.Sat]
      have pe : ((l :: ls)[r.toNat] :: (l :: ls).eraseIdx r.toNat).Perm (l :: ls) := erase_perm _ _ hr
      have le : ((l :: ls).eraseIdx r.toNat).length = ls.length := by rw [List.length_eraseIdx, if_pos hr]; simp
      refine ⟨_, ?_, _, _, _, ⟨rfl, rfl, rfl⟩, ?_, rfl, hb2⟩
      · rw [le]; omega
      · rw [List.append_assoc]
        exact (List.Perm.append_left ys pe).trans hp
  obtain ⟨e, lp1, o', ys, rfl, hp, hb⟩ := lp
  refine ⟨ys, o', ?_, hp, hb⟩
  simp [Lib.F_h_mixed_b, fDef, Lib.ev_h_mixed_b, listF, lp1]
theorem mixed_strs {o : OS} {xs : List Str} (h : IsBoxC o) (hm : xs.length < 1000) :
    ∃ (ys : List Str) (o' : OS), Lib.F_h_mixed_b [.ow o, .t (.lst (xs.map .str))] = .ret (.ow (.lst (ys.map .str))) [.ow o', .t (.lst (xs.map .str))] ∧ ys.Perm xs ∧ IsBoxC o' := by
  obtain ⟨zs, o', q, hp, hb⟩ := mixed_spec (xs := xs.map .str) h (by rw [List.length_map]; exact hm) (fun x hx => by obtain ⟨w, _, rfl⟩ := List.mem_map.mp hx; rfl)
  have ex : ∀ l : List PV, (∀ z ∈ l, z ∈ xs.map PV.str) → ∃ ys : List Str, l = ys.map .str := fun l => by
    induction l with
    | nil => exact fun _ => ⟨[], rfl⟩
    | cons z l ih =>
      intro hl
      obtain ⟨w, _, rfl⟩ := List.mem_map.mp (hl z List.mem_cons_self)
      obtain ⟨ys, rfl⟩ := ih fun z hz => hl z (List.mem_cons_of_mem _ hz)
      exact ⟨w :: ys, rfl⟩
  obtain ⟨ys, rfl⟩ := ex zs fun z hz => hp.subset hz
  refine ⟨ys, o', q, ?_, hb⟩
  have := hp.map (fun v : PV => match v with | .str s => s | _ => "")
  rw [List.map_map, List.map_map] at this
  simpa [Function.comp_def] using this
end Tk
end
section
namespace Tk
open PySem PySem.Spec PyProof.Rows L2 TreeL
abbrev Pr2 := Str × Str
def addP (fd : List Pr2) (p : Pr2) : List Pr2 := if fd.contains p then fd else fd ++ [p]
def addsP (fd l : List Pr2) : List Pr2 := l.foldl addP fd
def joinP (fd : List Pr2) (p : Pr2) : List Pr2 := (fd.filter fun q => q.1 == p.2).map (fun q => (p.1, q.2)) ++ (fd.filter fun q => q.2 == p.1).map (fun q => (q.1, p.2))
def closeP : Nat → List Pr2 → Nat → List Pr2
  | 0, fd, _ => fd
  | n + 1, fd, k => match fd[k]? with
    | none => fd
    | some p => closeP n (addsP fd (joinP fd p)) (k + 1)
inductive Lead (ps : List Pr2) : Str → Str → Prop
  | one {a b : Str} (h : (a, b) ∈ ps) : Lead ps a b
  | cat {a b c : Str} (h : Lead ps a b) (g : Lead ps b c) : Lead ps a c
theorem addP_mem {fd : List Pr2} {p q : Pr2} : q ∈ addP fd p ↔ q ∈ fd ∨ q = p := by
  unfold addP
  by_cases h : fd.contains p = true
  · rw [if_pos h]
    exact ⟨.inl, fun z => z.elim id fun e => by rw [e]; exact List.contains_iff_mem.mp h⟩
  · rw [if_neg h, List.mem_append, List.mem_singleton]
theorem addsP_mem : ∀ {l fd : List Pr2} {q : Pr2}, q ∈ addsP fd l ↔ q ∈ fd ∨ q ∈ l
  | [], fd, q => by simp [addsP]
  | p :: l, fd, q => by
    have ih := addsP_mem (l := l) (fd := addP fd p) (q := q)
    show q ∈ addsP (addP fd p) l ↔ _
    rw [ih, addP_mem, List.mem_cons, or_assoc]
theorem addP_nodup {fd : List Pr2} {p : Pr2} (h : fd.Nodup) : (addP fd p).Nodup := by
  unfold addP
  by_cases c : fd.contains p = true
  · rw [if_pos c]; exact h
  · rw [if_neg c, List.nodup_append]
    refine ⟨h, by simp, fun a ha b hb e => c ?_⟩
    rw [List.mem_singleton.mp hb] at e
    rw [← e]
    exact List.contains_iff_mem.mpr ha
theorem addsP_nodup : ∀ {l fd : List Pr2}, fd.Nodup → (addsP fd l).Nodup
  | [], _, h => h
  | p :: l, _, h => addsP_nodup (l := l) (addP_nodup (p := p) h)
theorem addP_pre {fd : List Pr2} {p : Pr2} : fd <+: addP fd p := by
  unfold addP
  split
  · exact List.prefix_rfl
  · exact List.prefix_append ..
theorem addsP_pre : ∀ {l fd : List Pr2}, fd <+: addsP fd l
  | [], _ => List.prefix_rfl
  | _ :: _, _ => addP_pre.trans addsP_pre
theorem pre_back {l m : List Pr2} (h : l <+: m) {i : Nat} {p : Pr2} (hi : i < l.length) (e : m[i]? = some p) : l[i]? = some p := by
  obtain ⟨t, rfl⟩ := h
  rwa [List.getElem?_append_left hi] at e
theorem joinP_mem {fd : List Pr2} {p x : Pr2} : x ∈ joinP fd p ↔ (∃ q ∈ fd, q.1 = p.2 ∧ x = (p.1, q.2)) ∨ ∃ q ∈ fd, q.2 = p.1 ∧ x = (q.1, p.2) := by
  unfold joinP
  rw [List.mem_append, List.mem_map, List.mem_map]
  constructor
  · rintro (⟨q, hq, rfl⟩ | ⟨q, hq, rfl⟩)
    · obtain ⟨h1, h2⟩ := List.mem_filter.mp hq
      exact .inl ⟨q, h1, by simpa using h2, rfl⟩
    · obtain ⟨h1, h2⟩ := List.mem_filter.mp hq
      exact .inr ⟨q, h1, by simpa using h2, rfl⟩
  · rintro (⟨q, hq, e, rfl⟩ | ⟨q, hq, e, rfl⟩)
    · exact .inl ⟨q, List.mem_filter.mpr ⟨hq, by simpa using e⟩, rfl⟩
    · exact .inr ⟨q, List.mem_filter.mpr ⟨hq, by simpa using e⟩, rfl⟩
theorem nodup_le' {α : Type} [DecidableEq α] : ∀ {l m : List α}, l.Nodup → (∀ x ∈ l, x ∈ m) → l.length ≤ m.length
  | [], _, _, _ => Nat.zero_le _
  | x :: l, m, h, s => by
    rw [List.nodup_cons] at h
    have hx : x ∈ m := s x List.mem_cons_self
    have ih := nodup_le' (l := l) (m := m.erase x) h.2 fun y hy => by
      have ne : y ≠ x := fun e => h.1 (by rw [← e]; exact hy)
      exact (List.mem_erase_of_ne ne).mpr (s y (List.mem_cons_of_mem _ hy))
    rw [List.length_erase_of_mem hx] at ih
    have := List.length_pos_of_mem hx
    rw [List.length_cons]
    omega
structure CInv (ps : List Pr2) (N : List Str) (fd : List Pr2) (k : Nat) : Prop where
  nd : fd.Nodup
  sub : ∀ p ∈ fd, p.1 ∈ N ∧ p.2 ∈ N
  lead : ∀ p ∈ fd, Lead ps p.1 p.2
  base : ∀ p ∈ ps, p ∈ fd
  le : k ≤ fd.length
  done : ∀ i j p q, i < k → j < k → fd[i]? = some p → fd[j]? = some q → p.2 = q.1 → (p.1, q.2) ∈ fd
variable {ps : List Pr2} {N : List Str}
theorem CInv.len {fd : List Pr2} {k : Nat} (h : CInv ps N fd k) : fd.length ≤ N.length * N.length := by
  have := nodup_le' (m := N.flatMap fun a => N.map fun b => (a, b)) h.nd fun p hp => by
    obtain ⟨h1, h2⟩ := h.sub p hp
    exact List.mem_flatMap.mpr ⟨p.1, h1, List.mem_map.mpr ⟨p.2, h2, rfl⟩⟩
  have l : ∀ M : List Str, (M.flatMap fun a => N.map fun b => (a, b)).length = M.length * N.length := fun M => by
    induction M with
    | nil => simp
    | cons a M ih => rw [List.flatMap_cons, List.length_append, List.length_map, ih, List.length_cons, Nat.succ_mul, Nat.add_comm]
  rwa [l] at this
theorem CInv.next {fd : List Pr2} {k : Nat} {p : Pr2} (h : CInv ps N fd k) (e : fd[k]? = some p) : CInv ps N (addsP fd (joinP fd p)) (k + 1) where
  nd := addsP_nodup h.nd
  sub := fun x hx => by
    have pm := List.mem_of_getElem? e
    rcases addsP_mem.mp hx with z | z
    · exact h.sub x z
    · rcases joinP_mem.mp z with ⟨q, hq, _, rfl⟩ | ⟨q, hq, _, rfl⟩
      · exact ⟨(h.sub p pm).1, (h.sub q hq).2⟩
      · exact ⟨(h.sub q hq).1, (h.sub p pm).2⟩
  lead := fun x hx => by
    have pm := h.lead p (List.mem_of_getElem? e)
    rcases addsP_mem.mp hx with z | z
    · exact h.lead x z
    · rcases joinP_mem.mp z with ⟨q, hq, eq, rfl⟩ | ⟨q, hq, eq, rfl⟩
      · have := h.lead q hq
        rw [eq] at this
        exact .cat pm this
      · have := h.lead q hq
        rw [eq] at this
        exact .cat this pm
  base := fun x hx => addsP_mem.mpr (.inl (h.base x hx))
  le := by
    have l := (List.getElem?_eq_some_iff.mp e).1
    have := (addsP_pre (l := joinP fd p) (fd := fd)).length_le
    omega
  done := fun i j x y hi hj ei ej exy => by
    have l := (List.getElem?_eq_some_iff.mp e).1
    have ei := pre_back addsP_pre (by omega) ei
    have ej := pre_back addsP_pre (by omega) ej
    refine addsP_mem.mpr ?_
    by_cases zi : i = k
    · subst zi
      rw [e] at ei
      cases ei
      exact .inr (joinP_mem.mpr (.inl ⟨y, List.mem_of_getElem? ej, exy.symm, rfl⟩))
    · by_cases zj : j = k
      · subst zj
        rw [e] at ej
        cases ej
        exact .inr (joinP_mem.mpr (.inr ⟨x, List.mem_of_getElem? ei, exy, rfl⟩))
      · exact .inl (h.done i j x y (by omega) (by omega) ei ej exy)
theorem close_inv : ∀ (n : Nat) (fd : List Pr2) (k : Nat), CInv ps N fd k → N.length * N.length < n + k → CInv ps N (closeP n fd k) (closeP n fd k).length
  | 0, fd, k, h, hn => by
    have := h.len
    have := h.le
    omega
  | n + 1, fd, k, h, hn => by
    unfold closeP
    cases e : fd[k]? with
    | none =>
      have l : fd.length ≤ k := List.getElem?_eq_none_iff.mp e
      have : k = fd.length := Nat.le_antisymm h.le l
      rw [← this]
      exact h
    | some p => exact close_inv n _ _ (h.next e) (by omega)
theorem close_start (hN : ∀ p ∈ ps, p.1 ∈ N ∧ p.2 ∈ N) : CInv ps N (addsP [] ps) 0 where
  nd := addsP_nodup (by simp)
  sub := fun p hp => (addsP_mem.mp hp).elim (fun z => nomatch z) (hN p)
  lead := fun p hp => (addsP_mem.mp hp).elim (fun z => nomatch z) fun z => .one z
  base := fun p hp => addsP_mem.mpr (.inr hp)
  le := Nat.zero_le _
  done := fun i j x y hi => absurd hi (Nat.not_lt_zero _)
theorem close_iff {n : Nat} (hN : ∀ p ∈ ps, p.1 ∈ N ∧ p.2 ∈ N) (hn : N.length * N.length < n) (a b : Str) : (a, b) ∈ closeP n (addsP [] ps) 0 ↔ Lead ps a b := by
  have c := close_inv n _ 0 (close_start hN) (by omega)
  refine ⟨c.lead (a, b), fun h => ?_⟩
  induction h with
  | one h => exact c.base _ h
  | cat _ _ h1 h2 =>
    obtain ⟨i, hi⟩ := List.mem_iff_getElem?.mp h1
    obtain ⟨j, hj⟩ := List.mem_iff_getElem?.mp h2
    exact c.done i j _ _ (List.getElem?_eq_some_iff.mp hi).1 (List.getElem?_eq_some_iff.mp hj).1 hi hj rfl
theorem no_ring {f : Str → Nat} (h : ∀ p ∈ ps, f p.1 < f p.2) {a b : Str} (l : Lead ps a b) : f a < f b := by
  induction l with
  | one h' => exact h _ h'
  | cat _ _ h1 h2 => omega
end Tk
end
section
namespace Tk
open PySem PySem.Spec PyProof.Rows L2 TreeL
@[local simp] theorem LIM_eqtd : LIM = 1000000 := rfl
abbrev prP (p : Pr2) : PV := .tup [.str p.1, .str p.2]
def kvP (fd : List Pr2) : List (PV × PV) := fd.map fun p => (prP p, PV.bl true)
theorem keys_pr (p : Pr2) : keys2 (prP p) = some [.inr p.1, .inr p.2] := rfl
theorem beq_pr (p q : Pr2) : PV.beq (prP p) (prP q) = decide (p = q) := by
  have h := beq_keys [.inr p.1, .inr p.2] [.inr q.1, .inr q.2]
  have e : ((.tup (([.inr p.1, .inr p.2] : List Key).map keyP) : PV)) = prP p := rfl
  have e2 : ((.tup (([.inr q.1, .inr q.2] : List Key).map keyP) : PV)) = prP q := rfl
  rw [e, e2] at h
  rw [h]
  obtain ⟨a, b⟩ := p
  obtain ⟨c, d⟩ := q
  simp
theorem has_pr (fd : List Pr2) (p : Pr2) : hasP (kvP fd) (prP p) = fd.contains p := by
  unfold hasP kvP
  rw [List.any_map]
  induction fd with
  | nil => rfl
  | cons q fd ih =>
    rw [List.any_cons, ih, List.contains_cons]
    show (PV.beq (prP q) (prP p) || _) = _
    rw [beq_pr]
    by_cases e : q = p
    · subst e; simp
    · have e' : ¬ p = q := fun z => e z.symm
      simp [e, e']
theorem put_pr (fd : List Pr2) (p : Pr2) : putP (kvP fd) (prP p) (.bl true) = kvP (addP fd p) := by
  have h := has_pr fd p
  unfold putP addP
  unfold hasP at h
  rw [h]
  by_cases c : fd.contains p = true
  · rw [if_pos c, if_pos c]
    unfold kvP
    rw [List.map_map]
    apply List.map_congr_left
    intro q _
    simp only [Function.comp_apply]
    split <;> rfl
  · rw [if_neg c, if_neg c]
    unfold kvP
    rw [List.map_append]
    rfl
def goodS (x : Str) : Bool := decide (x.length ≤ LIM) && PyData.strOk x
def GoodP (l : List Pr2) : Prop := ∀ p ∈ l, goodS p.1 = true ∧ goodS p.2 = true
theorem keys_good2 {fd : List Pr2} (h : GoodP fd) : ((kvP fd).all fun kv => keysB kv.1) = true := by
  unfold kvP
  rw [List.all_map, List.all_eq_true]
  intro p hp
  obtain ⟨h1, h2⟩ := h p hp
  show (([PV.str p.1, PV.str p.2] : List PV).all keyB) = true
  rw [List.all_cons, List.all_cons, List.all_nil, Bool.and_true, Bool.and_eq_true]
  exact ⟨h1, h2⟩
theorem keys_map (fd : List Pr2) : (kvP fd).map (·.1) = fd.map prP := by
  unfold kvP
  rw [List.map_map]
  rfl
theorem GoodP.adds {fd l : List Pr2} (h : GoodP fd) (g : GoodP l) : GoodP (addsP fd l) := fun p hp => (addsP_mem.mp hp).elim (h p) (g p)
theorem GoodP.join {fd : List Pr2} {p : Pr2} (h : GoodP fd) (hp : p ∈ fd) : GoodP (joinP fd p) := fun x hx => by
  rcases joinP_mem.mp hx with ⟨q, hq, _, rfl⟩ | ⟨q, hq, _, rfl⟩
  · exact ⟨(h p hp).1, (h q hq).2⟩
  · exact ⟨(h q hq).1, (h p hp).2⟩
theorem eq_str (a b : Str) : eqP (.str a) (.str b) = some (.bl (a == b)) := by
  simp [eqP, dat, peq]
theorem compP {et : EvT} {ea : EvE} {al : En → Bool} {env : En} {i j : Nat} (p : Pr2 → Bool) (f : Pr2 → PV) (hal : al env = true) (hi : env[i]? = some none) (hj : env[j]? = some none) (hij : i ≠ j) : ∀ (xs : List Pr2) (acc : List PV), acc.length + xs.length ≤ 1000000 →
    (∀ x ∈ xs, et ((env.set i (some (.t (.str x.1)))).set j (some (.t (.str x.2)))) = .ok (p x) ((env.set i (some (.t (.str x.1)))).set j (some (.t (.str x.2)))) ∧
      (p x = true → ea ((env.set i (some (.t (.str x.1)))).set j (some (.t (.str x.2)))) = .ok (.tr (f x)) ((env.set i (some (.t (.str x.1)))).set j (some (.t (.str x.2)))))) →
    compL (gTpL 2 (gsCons (gNm i) (gsCons (gNm j) gsNil))) et ea [i, j] al (xs.map prP) acc env = .ok (acc ++ (xs.filter p).map f) env
  | [], acc, _, _ => by simp [compL, hal]
  | x :: xs, acc, hl, hs => by
    rw [List.length_cons] at hl
    obtain ⟨h1, h2⟩ := hs x List.mem_cons_self
    have g : gTpL 2 (gsCons (gNm i) (gsCons (gNm j) gsNil)) (prP x) env = some ((env.set i (some (.t (.str x.1)))).set j (some (.t (.str x.2)))) := rfl
    have w : wipeE ((env.set i (some (.t (.str x.1)))).set j (some (.t (.str x.2)))) [i, j] = env := by
      simp only [wipeE]
      rw [List.set_set, List.set_comm _ _ hij, List.set_set]
      rw [unset hj, unset hi]
    have ih := fun acc h => compP (et := et) (ea := ea) (al := al) p f hal hi hj hij xs acc h fun y hy => hs y (List.mem_cons_of_mem _ hy)
    generalize hE : (env.set i (some (.t (.str x.1)))).set j (some (.t (.str x.2))) = E at *
    rw [List.map_cons, compL, if_pos hal, g]
    simp only [h1]
    cases hp : p x with
    | true =>
      rw [if_pos rfl, h2 hp]
      have lt : acc.length < LIM := by rw [LIM_eqtd]; omega
      simp only [lt, if_true, w]
      rw [ih (acc ++ [f x]) (by rw [List.length_append, List.length_singleton]; omega), List.filter_cons_of_pos hp, List.map_cons, List.append_assoc]
      rfl
    | false =>
      simp only [Bool.false_eq_true, if_false, w]
      rw [ih acc (by omega), List.filter_cons_of_neg (by rw [hp]; exact Bool.false_ne_true)]
theorem comp_p {ei : EvI} {et : EvT} {ea : EvE} {env : En} {i j : Nat} {a : Vl} (p : Pr2 → Bool) (f : Pr2 → PV) {xs : List Pr2} (hx : ei env = .ok ⟨xs.map prP, a⟩ env) (hal : alive a (xs.map prP) env = true) (hi : env[i]? = some none) (hj : env[j]? = some none) (hij : i ≠ j) (hl : xs.length ≤ 1000000)
    (hs : ∀ x ∈ xs, et ((env.set i (some (.t (.str x.1)))).set j (some (.t (.str x.2)))) = .ok (p x) ((env.set i (some (.t (.str x.1)))).set j (some (.t (.str x.2)))) ∧
      (p x = true → ea ((env.set i (some (.t (.str x.1)))).set j (some (.t (.str x.2)))) = .ok (.tr (f x)) ((env.set i (some (.t (.str x.1)))).set j (some (.t (.str x.2)))))) :
    eOf (fComp ei (gTpL 2 (gsCons (gNm i) (gsCons (gNm j) gsNil))) et ea [i, j]) env = .ok (.tr (.lst ((xs.filter p).map f))) env := by
  have cc := compP (et := et) (ea := ea) (al := alive a (xs.map prP)) p f hal hi hj hij xs [] (by simpa using hl) hs
  rw [List.nil_append] at cc
  have no : noOwn env [i, j] = true := by simp [hi, hj]
  have un : unW env env [i, j] = env := by simp [hi, hj, unset hi, unset hj]
  have we : wipeE env [i, j] = env := by simp [unset hi, unset hj]
  unfold eOf fComp
  rw [hx]
  simp only [RE.bind, no, if_true, we, cc, un, OS.tree]
theorem joined_ok {fd : List Pr2} {a b : Str} (hl : fd.length ≤ 400000) : Lib.F_joined_with [.t (.lst (fd.map prP)), .t (.str a), .t (.str b)] = .ret (.t (.lst ((joinP fd (a, b)).map prP))) [.t (.lst (fd.map prP)), .t (.str a), .t (.str b)] := by
  have q1 := comp_p (ei := iAny [0, 1, 2] (eVar 0)) (et := tBl (eBin eqP (eVar 4) (eVar 2))) (ea := eTup (aCons (eVar 1) (aCons (eVar 5) aNil))) (env := [some (.t (.lst (fd.map prP))), some (.t (.str a)), some (.t (.str b)), none, none, none]) (i := 4) (j := 5) (a := .tr .non) (fun q => q.1 == b) (fun q => prP (a, q.2)) (xs := fd) (by
    generalize fd.map prP = L
    simp) rfl rfl rfl (by decide) (by omega) (fun x _ => ⟨by
    have e := eq_str x.1 b
    generalize (x.1 == b) = B at *
    generalize fd.map prP = L
    simp [e], fun _ => by
    generalize fd.map prP = L
    simp⟩)
  have q2 := fun W : List PV => comp_p (ei := iAny [0, 1, 2] (eVar 0)) (et := tBl (eBin eqP (eVar 5) (eVar 1))) (ea := eTup (aCons (eVar 4) (aCons (eVar 2) aNil))) (env := [some (.t (.lst (fd.map prP))), some (.t (.str a)), some (.t (.str b)), some (.t (.lst W)), none, none]) (i := 4) (j := 5) (a := .tr .non) (fun q => q.2 == a) (fun q => prP (q.1, b)) (xs := fd) (by
    generalize fd.map prP = L
    simp) rfl rfl rfl (by decide) (by omega) (fun x _ => ⟨by
    have e := eq_str x.2 a
    generalize (x.2 == a) = B at *
    generalize fd.map prP = L
    simp [e], fun _ => by
    generalize fd.map prP = L
    simp⟩)
  have e : (joinP fd (a, b)).map prP = ((fd.filter fun q => q.1 == b).map fun q => prP (a, q.2)) ++ ((fd.filter fun q => q.2 == a).map fun q => prP (q.1, b)) := by
    unfold joinP
    rw [List.map_append, List.map_map, List.map_map]
    rfl
  have l1 : ((fd.filter fun q => q.1 == b).map fun q => prP (a, q.2)).length ≤ 400000 := by rw [List.length_map]; exact Nat.le_trans (List.length_filter_le _ _) hl
  have l2 : ((fd.filter fun q => q.2 == a).map fun q => prP (q.1, b)).length ≤ 400000 := by rw [List.length_map]; exact Nat.le_trans (List.length_filter_le _ _) hl
  rw [e]
  unfold Lib.F_joined_with
  rw [fDef_of rfl, show env0 6 [Arg.t (.lst (fd.map prP)), Arg.t (.str a), Arg.t (.str b)] = [some (.t (.lst (fd.map prP))), some (.t (.str a)), some (.t (.str b)), none, none, none] from rfl]
  unfold Lib.ev_joined_with
  have q2 := q2 ((fd.filter fun q => q.1 == b).map fun q => prP (a, q.2))
  generalize (fd.filter fun q => q.1 == b).map (fun q => prP (a, q.2)) = A at *
  generalize (fd.filter fun q => q.2 == a).map (fun q => prP (q.1, b)) = B at *
  generalize eOf (fComp (iAny [0, 1, 2] (eVar 0)) _ (tBl (eBin eqP (eVar 4) (eVar 2))) _ _) = E1 at *
  generalize eOf (fComp (iAny [0, 1, 2] (eVar 0)) _ (tBl (eBin eqP (eVar 5) (eVar 1))) _ _) = E2 at *
  generalize fd.map prP = L at *
  have lab : A.length + B.length ≤ 1000000 := by omega
  simp [q1, q2, addA, lab]
end Tk
end
section
namespace Tk
open PySem PySem.Spec PyProof.Rows L2 TreeL
@[local simp] theorem LIM_eqte : LIM = 1000000 := rfl
variable {ps : List Pr2} {N : List Str} {v : PV} {x2 x4 x5 x6 : Option TreeL.Arg}
theorem addP_len (fd : List Pr2) (p : Pr2) : (addP fd p).length ≤ fd.length + 1 := by
  unfold addP
  split
  · omega
  · rw [List.length_append, List.length_singleton]; omega
theorem kvP_len (fd : List Pr2) : (kvP fd).length = fd.length := List.length_map ..
abbrev D1 (v : PV) (fd : List Pr2) (x2 : Option TreeL.Arg) : En := [some (.t v), some (.ow (.dct true (kvP fd))), x2, none, none, none, none]
abbrev D2 (v : PV) (fd : List Pr2) (k : Int) (x2 x5 x6 : Option TreeL.Arg) : En := [some (.t v), some (.ow (.dct true (kvP fd))), x2, some (.ow (.lst (fd.map prP))), some (.t (.int k)), x5, x6]
theorem put1 (fd : List Pr2) (p : Pr2) (hl : fd.length < 1000000) : Lib.eb_closed_1 (D1 v fd (some (.t (prP p)))) = .nx (D1 v (addP fd p) (some (.t (prP p)))) := by
  have k := keys_pr p
  have u := put_pr fd p
  have l := kvP_len fd
  unfold Lib.eb_closed_1
  simp only [D1]
  rw [← u]
  generalize kvP fd = K at *
  generalize prP p = P at *
  have hl' : K.length < 1000000 := by omega
  simp [isOwT, k, hl']
theorem loop1 : ∀ (l fd : List Pr2) (x2 : Option TreeL.Arg), fd.length + l.length ≤ 900000 → ∃ y2, loopF (gNm 2) Lib.eb_closed_1 (fun _ => true) (l.map prP) (D1 v fd x2) = .nx (D1 v (addsP fd l) y2)
  | [], fd, x2, _ => ⟨x2, by simp [loopF, addsP]⟩
  | p :: l, fd, x2, h => by
    rw [List.length_cons] at h
    have b := put1 (v := v) fd p (by omega)
    have al := addP_len fd p
    obtain ⟨y2, q⟩ := loop1 l (addP fd p) (some (.t (prP p))) (by omega)
    refine ⟨y2, ?_⟩
    rw [show addsP fd (p :: l) = addsP (addP fd p) l from rfl, ← q, List.map_cons]
    generalize Lib.eb_closed_1 = EB at *
    generalize kvP (addP fd p) = K2 at *
    generalize kvP fd = K at *
    generalize prP p = P at *
    generalize l.map prP = L
    simp only [D1] at b
    simp [loopF, b]
theorem put2 (fd : List Pr2) (p : Pr2) (k : Int) (hl : fd.length < 1000000) : Lib.eb_closed_2 (D2 v fd k (some (.t (prP p))) x5 x6) = .nx (D2 v (addP fd p) k (some (.t (prP p))) x5 x6) := by
  have kk := keys_pr p
  have u := put_pr fd p
  have l := kvP_len fd
  have l3 : (fd.map prP).length < 1000000 := by rw [List.length_map]; exact hl
  have h := has_pr fd p
  have n : ninDT (prP p) (.dct true (kvP fd)) = some (.bl (!fd.contains p)) := by
    simp only [ninDT, kk, h, Option.map_some]
  unfold Lib.eb_closed_2
  simp only [D2]
  cases c : fd.contains p with
  | true =>
    rw [c] at n
    have e : addP fd p = fd := by unfold addP; rw [if_pos c]
    rw [e]
    generalize kvP fd = K at *
    generalize fd.map prP = L at *
    generalize prP p = P at *
    simp [n]
  | false =>
    rw [c] at n
    have e : addP fd p = fd ++ [p] := by unfold addP; rw [c]; rfl
    have e2 : (addP fd p).map prP = fd.map prP ++ [prP p] := by rw [e, List.map_append]; rfl
    rw [e2, ← u]
    generalize kvP fd = K at *
    generalize fd.map prP = L at *
    generalize prP p = P at *
    have hl' : K.length < 1000000 := by omega
    simp [n, isOwT, kk, hl', eMut, isTyO, appendO, l3]
theorem loop2 : ∀ (l fd : List Pr2) (k : Int) (x2 : Option TreeL.Arg), fd.length + l.length ≤ 900000 → ∃ y2, loopF (gNm 2) Lib.eb_closed_2 (fun _ => true) (l.map prP) (D2 v fd k x2 x5 x6) = .nx (D2 v (addsP fd l) k y2 x5 x6)
  | [], fd, k, x2, _ => ⟨x2, by simp [loopF, addsP]⟩
  | p :: l, fd, k, x2, h => by
    rw [List.length_cons] at h
    have b := put2 (v := v) (x5 := x5) (x6 := x6) fd p k (by omega)
    have al := addP_len fd p
    obtain ⟨y2, q⟩ := loop2 l (addP fd p) k (some (.t (prP p))) (by omega)
    refine ⟨y2, ?_⟩
    rw [show addsP fd (p :: l) = addsP (addP fd p) l from rfl, ← q, List.map_cons]
    generalize Lib.eb_closed_2 = EB at *
    generalize kvP (addP fd p) = K2 at *
    generalize (addP fd p).map prP = M2 at *
    generalize kvP fd = K at *
    generalize fd.map prP = M at *
    generalize prP p = P at *
    generalize l.map prP = L
    simp only [D2] at b
    simp [loopF, b]
theorem joinP_len (fd : List Pr2) (p : Pr2) : (joinP fd p).length ≤ 2 * fd.length := by
  unfold joinP
  rw [List.length_append, List.length_map, List.length_map]
  have a := List.length_filter_le (fun q : Pr2 => q.1 == p.2) fd
  have b := List.length_filter_le (fun q : Pr2 => q.2 == p.1) fd
  omega
theorem turn3 {fd : List Pr2} {k : Nat} {p : Pr2} (e : fd[k]? = some p) (hl : fd.length ≤ 10000) (g : GoodP fd) : ∃ y2 y5 y6, Lib.eb_closed_3 (D2 v fd k x2 x5 x6) = .nx (D2 v (addsP fd (joinP fd p)) ((k + 1 : Nat) : Int) y2 y5 y6) := by
  have jl := joinP_len fd p
  obtain ⟨y2, q⟩ := loop2 (v := v) (x5 := some (.t (.str p.1))) (x6 := some (.t (.str p.2))) (joinP fd p) fd ((k + 1 : Nat) : Int) x2 (by omega)
  refine ⟨y2, some (.t (.str p.1)), some (.t (.str p.2)), ?_⟩
  have kl := (List.getElem?_eq_some_iff.mp e).1
  have ix : ixP (.lst (fd.map prP)) (.int k) = some (prP p) := by
    show atI (fd.map prP) (k : Int) = _
    exact atI_nat (by rw [List.getElem?_map, e]; rfl)
  have s1 : sAsg (eBin ixP (eVar 3) (eVar 4)) (gTpL 2 (gsCons (gNm 5) (gsCons (gNm 6) gsNil))) (D2 v fd k x2 x5 x6) = .nx (D2 v fd k x2 (some (.t (.str p.1))) (some (.t (.str p.2)))) := by
    simp only [D2]
    generalize fd.map prP = L at *
    generalize kvP fd = K at *
    simp [ix, gTpL]
  have s2 : sAsg (eRes (rBin addA (eVar 4) (eCon (.int 1)))) (gNm 4) (D2 v fd k x2 (some (.t (.str p.1))) (some (.t (.str p.2)))) = .nx (D2 v fd ((k + 1 : Nat) : Int) x2 (some (.t (.str p.1))) (some (.t (.str p.2)))) := by
    simp only [D2]
    generalize fd.map prP = L at *
    generalize kvP fd = K at *
    simp [addA]
  have jo := joined_ok (a := p.1) (b := p.2) (fd := fd) (by omega)
  have kg := keys_good2 g
  have km := keys_map fd
  have it : iAny [0] (eRes (rCall 3 Lib.F_joined_with [] (aCons (eOf (fKeysT 1)) (aCons (eVar 5) (aCons (eVar 6) aNil))))) (D2 v fd ((k + 1 : Nat) : Int) x2 (some (.t (.str p.1))) (some (.t (.str p.2)))) = .ok ⟨(joinP fd p).map prP, .tr .non⟩ (D2 v fd ((k + 1 : Nat) : Int) x2 (some (.t (.str p.1))) (some (.t (.str p.2)))) := by
    have fk : eOf (fKeysT 1) (D2 v fd ((k + 1 : Nat) : Int) x2 (some (.t (.str p.1))) (some (.t (.str p.2)))) = .ok (.tr (.lst (fd.map prP))) (D2 v fd ((k + 1 : Nat) : Int) x2 (some (.t (.str p.1))) (some (.t (.str p.2)))) := by
      rw [← km]
      simp only [D2]
      generalize fd.map prP = L
      generalize kvP fd = K at *
      simp [kg]
    have jo : Lib.F_joined_with [.t (.lst (fd.map prP)), .t (.str p.1), .t (.str p.2)] = .ret (.t (.lst ((joinP fd p).map prP))) [.t (.lst (fd.map prP)), .t (.str p.1), .t (.str p.2)] := jo
    clear q s1 s2
    simp only [D2] at fk ⊢
    generalize ((k + 1 : Nat) : Int) = M at *
    generalize eOf (fKeysT 1) = E at *
    generalize (joinP fd p).map prP = J at *
    generalize fd.map prP = L at *
    generalize kvP fd = K at *
    simp [fk, jo]
  unfold Lib.eb_closed_3
  rw [seq_nxR s1, seq_nxR s2]
  unfold sFor
  rw [it]
  exact q
theorem loop3 : ∀ (n : Nat) (fd : List Pr2) (k : Nat) (x2 x5 x6 : Option TreeL.Arg), CInv ps N fd k → N.length * N.length < n + k → N.length * N.length ≤ 9000 → GoodP fd → ∃ k' y2 y5 y6, sLoop (tBl (eBin ltP (eVar 4) (eRes (rBui lenF (aCons (eVar 3) aNil))))) Lib.eb_closed_3 n (D2 v fd k x2 x5 x6) = .nx (D2 v (closeP n fd k) k' y2 y5 y6)
  | 0, fd, k, x2, x5, x6, c, h, _, _ => by
    have := c.len
    have := c.le
    omega
  | n + 1, fd, k, x2, x5, x6, c, h, h9, g => by
    have fl := c.len
    have lf : lenF [.lst (fd.map prP)] = some (.t (.int fd.length)) := by show some (Arg.t (.int ((fd.map prP).length : Int))) = _; rw [List.length_map]
    have t : (tBl (eBin ltP (eVar 4) (eRes (rBui lenF (aCons (eVar 3) aNil))))) (D2 v fd k x2 x5 x6) = .ok (decide ((k : Int) < fd.length)) (D2 v fd k x2 x5 x6) := by
      simp only [D2]
      generalize fd.map prP = L at *
      generalize kvP fd = K at *
      generalize (fd.length : Int) = M at *
      simp [lf]
    rw [sLoop, t]
    unfold closeP
    cases e : fd[k]? with
    | none =>
      have l : fd.length ≤ k := List.getElem?_eq_none_iff.mp e
      rw [decide_eq_false (by omega)]
      exact ⟨k, x2, x5, x6, rfl⟩
    | some p =>
      have l := (List.getElem?_eq_some_iff.mp e).1
      rw [decide_eq_true (by omega)]
      obtain ⟨y2, y5, y6, b⟩ := turn3 (v := v) (x2 := x2) (x5 := x5) (x6 := x6) e (by omega) g
      obtain ⟨k', z2, z5, z6, q⟩ := loop3 n (addsP fd (joinP fd p)) (k + 1) y2 y5 y6 (c.next e) (by omega) h9 (g.adds (g.join (List.mem_of_getElem? e)))
      refine ⟨k', z2, z5, z6, ?_⟩
      simp only [RE.so, if_true]
      rw [b]
      exact q
theorem closed_ok (hv : v = .lst (ps.map prP) ∨ v = .tup (ps.map prP)) (hN : ∀ p ∈ ps, p.1 ∈ N ∧ p.2 ∈ N) (h9 : N.length * N.length < 900) (hl : ps.length ≤ 1000) (g : GoodP ps) : Lib.F_closed [.t v] = .ret (.ow (.dct true (kvP (closeP 1000 (addsP [] ps) 0)))) [.t v] := by
  have g0 : GoodP (addsP [] ps) := GoodP.adds (fun p hp => nomatch hp) g
  obtain ⟨y2, q1⟩ := loop1 (v := v) ps [] none (by simp; omega)
  obtain ⟨k', z2, z5, z6, q3⟩ := loop3 (v := v) (ps := ps) (N := N) 1000 (addsP [] ps) 0 y2 none none (close_start hN) (by omega) (by omega) g0
  have s1 : sOwn 1 fDct0T [some (.t v), none, none, none, none, none, none] = .nx (D1 v [] none) := by
    simp [D1, kvP]
  have s2 : sFor (iAny [0] (eVar 0)) (gNm 2) Lib.eb_closed_1 (D1 v [] none) = .nx (D1 v (addsP [] ps) y2) := by
    have it : iAny [0] (eVar 0) (D1 v [] none) = .ok ⟨ps.map prP, .tr .non⟩ (D1 v [] none) := by
      rcases hv with rfl | rfl
      · generalize ps.map prP = L
        simp
      · generalize ps.map prP = L
        simp
    unfold sFor
    rw [it]
    exact q1
  have kg := keys_good2 g0
  have km := keys_map (addsP [] ps)
  have s3 : sOwn 3 (fKeysT 1) (D1 v (addsP [] ps) y2) = .nx [some (.t v), some (.ow (.dct true (kvP (addsP [] ps)))), y2, some (.ow (.lst ((addsP [] ps).map prP))), none, none, none] := by
    rw [← km]
    simp only [D1]
    generalize kvP (addsP [] ps) = K at *
    simp [kg]
  have s4 : sAsg (eCon (.int 0)) (gNm 4) [some (.t v), some (.ow (.dct true (kvP (addsP [] ps)))), y2, some (.ow (.lst ((addsP [] ps).map prP))), none, none, none] = .nx (D2 v (addsP [] ps) ((0 : Nat) : Int) y2 none none) := by
    simp only [D2]
    generalize kvP (addsP [] ps) = K at *
    generalize (addsP [] ps).map prP = L at *
    simp
  unfold Lib.F_closed
  rw [fDef_of rfl, show env0 7 [Arg.t v] = [some (.t v), none, none, none, none, none, none] from rfl]
  unfold Lib.ev_closed
  rw [seq_nxR s1, seq_nxR s2, seq_nxR s3, seq_nxR s4, seq_nxR q3]
  simp only [D2]
  generalize closeP 1000 (addsP [] ps) 0 = R
  generalize kvP R = K
  generalize R.map prP = L
  simp
theorem has_ring_ok (hv : v = .lst (ps.map prP) ∨ v = .tup (ps.map prP)) (hN : ∀ p ∈ ps, p.1 ∈ N ∧ p.2 ∈ N) (h9 : N.length * N.length < 900) (hl : ps.length ≤ 1000) (g : GoodP ps) : ∃ b, Lib.F_has_ring [.t v] = .ret (.t (.bl b)) [.t v] ∧ (b = true ↔ ∃ a, Lead ps a a) := by
  have c := closed_ok hv hN h9 hl g
  have ci := close_inv (ps := ps) (N := N) 1000 _ 0 (close_start hN) (by omega)
  have iff := close_iff (n := 1000) hN (by omega)
  have gR : GoodP (closeP 1000 (addsP [] ps) 0) := fun p hp => by
    have ld := (iff p.1 p.2).mp hp
    have fst : ∀ {a b}, Lead ps a b → goodS a = true ∧ goodS b = true := fun l => by
      induction l with
      | one h => exact g _ h
      | cat _ _ h1 h2 => exact ⟨h1.1, h2.2⟩
    exact fst ld
  have rl := ci.len
  generalize hR : closeP 1000 (addsP [] ps) 0 = R at *
  have kg := keys_good2 gR
  have km := keys_map R
  have it : iKeyTF (fRes (rCall 1 Lib.F_closed [] (aCons (eVar 0) aNil))) [some (.t v), none, none] = .ok ⟨R.map prP, .tr .non⟩ [some (.t v), none, none] := by
    rw [← km]
    generalize kvP R = K at *
    simp [c, kg]
  have q := comp_p (ei := iKeyTF (fRes (rCall 1 Lib.F_closed [] (aCons (eVar 0) aNil)))) (et := tYesT) (ea := eBin eqP (eVar 1) (eVar 2)) (env := [some (.t v), none, none]) (i := 1) (j := 2) (a := .tr .non) (fun _ => true) (fun p => .bl (p.1 == p.2)) (xs := R) it rfl rfl rfl (by decide) (by omega) (fun p _ => ⟨rfl, fun _ => by
    have e := eq_str p.1 p.2
    generalize (p.1 == p.2) = B at *
    simp [e]⟩)
  rw [List.filter_eq_self.mpr fun _ _ => rfl] at q
  have an := anyF_map (fun p : Pr2 => p.1 == p.2) R
  refine ⟨R.any fun p => p.1 == p.2, ?_, ?_⟩
  · unfold Lib.F_has_ring Lib.ev_has_ring
    rw [fDef_of rfl, show env0 3 [Arg.t v] = [some (.t v), none, none] from rfl]
    generalize (R.any fun p => p.1 == p.2) = B at *
    generalize R.map (fun p => PV.bl (p.1 == p.2)) = L at *
    generalize eOf (fComp _ _ _ _ _) = E at *
    simp [q, an]
  · rw [List.any_eq_true]
    constructor
    · rintro ⟨p, hp, e⟩
      have e : p.1 = p.2 := by simpa using e
      refine ⟨p.1, (iff p.1 p.1).mp ?_⟩
      have : p = (p.1, p.1) := by rw [Prod.ext_iff]; exact ⟨rfl, e.symm⟩
      rwa [← this]
    · rintro ⟨a, h⟩
      exact ⟨(a, a), (iff a a).mpr h, by simp⟩
end Tk
end
section
namespace Pw
open PySem PySem.Spec PyProof.Rows L2 TreeL
def alphaL : List Nat := TL.tl "abcdefghijklmnopqrstuvwxyz"
def barL : List PySem.Str := ["and", "any", "do", "if", "none", "not", "same", "send", "then", "time", "to", "wipe", "work"]
def barB (s : PySem.Str) : Bool := barL.any fun z => z == s
def nmS (s : PySem.Str) : Bool := decide (1 ≤ s.length ∧ s.length ≤ 4) && !barB s && (TL.tl s).all fun n => decide (n ∈ alphaL)
def nmB : PV → Bool
  | .str s => nmS s
  | _ => false
theorem datL_str (n : Nat) (xs : List PySem.Str) : datL n (xs.map .str) = true := by
  rw [datL_all, List.all_eq_true]
  intro t ht
  obtain ⟨w, _, rfl⟩ := List.mem_map.mp ht
  cases n <;> rfl
theorem in_strs (s : PySem.Str) (bs : List PySem.Str) : inP (.str s) (.tup (bs.map .str)) = some (.bl (bs.any fun z => z == s)) := by
  have d1 : dat 63 (.str s) = true := rfl
  simp only [inP, inB, d1, datL_str, Bool.and_self, if_true, Option.map_some, List.any_map]
  rfl
theorem in_strsL (s : PySem.Str) (bs : List PySem.Str) : inP (.str s) (.lst (bs.map .str)) = some (.bl (bs.any fun z => z == s)) := by
  have d1 : dat 63 (.str s) = true := rfl
  simp only [inP, inB, d1, datL_str, Bool.and_self, if_true, Option.map_some, List.any_map]
  rfl
theorem signs_tl (s : PySem.Str) : TreeL.signs s = (TL.tl s).map fun n => PV.str ⟨#[n]⟩ := rfl
theorem tl_len (s : PySem.Str) : (TL.tl s).length = s.length := (TL.len_tl s).symm
theorem in_alpha (n : Nat) : inP (.str ⟨#[n]⟩) (.str "abcdefghijklmnopqrstuvwxyz") = some (.bl (decide (n ∈ alphaL))) := rfl
theorem is_name_str (ks : List Nat) (s : PySem.Str) : Lib.F_is_name ks [.t (.str s)] = .ret (.t (.bl (nmS s))) [.t (.str s)] := by
  have hb := in_strs s barL
  simp only [barL, List.map_cons, List.map_nil] at hb
  rw [show (["and", "any", "do", "if", "none", "not", "same", "send", "then", "time", "to", "wipe", "work"] : List PySem.Str) = barL from rfl] at hb
  rw [show (barL.any fun z => z == s) = barB s from rfl] at hb
  by_cases h1 : 1 ≤ s.length
  · by_cases h4 : s.length ≤ 4
    · have g1 : (1 : Int) ≤ (s.length : Int) := by omega
      have g4 : ((s.length : Nat) : Int) ≤ 4 := by omega
      cases hq : barB s with
      | true =>
        rw [hq] at hb
        simp [Lib.F_is_name, fDef, Lib.ev_is_name, lenF, g1, g4, hb, nmS, h1, h4, hq]
      | false =>
        rw [hq] at hb
        have c1 := compY (ea := eBin inP (eVar 1) (eCon (.str "abcdefghijklmnopqrstuvwxyz"))) (al := alive (.tr .non) (TreeL.signs s)) (env := [some (.t (.str s)), none]) (j := 1) (fun n => PV.str ⟨#[n]⟩) (fun n => PV.bl (decide (n ∈ alphaL))) rfl rfl (TL.tl s) (by rw [tl_len]; omega) (fun n _ => by simp [in_alpha])
        rw [← signs_tl] at c1
        simp [Lib.F_is_name, fDef, Lib.ev_is_name, lenF, g1, g4, hb, nmS, h1, h4, hq, c1, allF_map]
    · have g4 : ¬ ((s.length : Nat) : Int) ≤ 4 := by omega
      have g1 : (1 : Int) ≤ (s.length : Int) := by omega
      simp [Lib.F_is_name, fDef, Lib.ev_is_name, lenF, g1, g4, nmS, h4]
  · have g1 : ¬ (1 : Int) ≤ (s.length : Int) := by omega
    simp [Lib.F_is_name, fDef, Lib.ev_is_name, lenF, g1, nmS, h1]
theorem is_name_dat {ks : List Nat} {n : Nat} {v : PV} (h : dat n v = true) : Lib.F_is_name ks [.t v] = .ret (.t (.bl (nmB v))) [.t v] := by
  cases v with
  | str s => exact is_name_str ks s
  | non => rfl
  | bl b => rfl
  | int i => rfl
  | lst xs => rfl
  | tup xs => rfl
  | _ => cases n <;> cases h
def items : PV → List PV
  | .lst xs => xs
  | .tup xs => xs
  | _ => []
theorem put1 (t : PV) : putFP (Str.ofString "firsts") t [] = [(Str.ofString "firsts", t)] := rfl
theorem put2 (t u : PV) : putFP (Str.ofString "events") u [(Str.ofString "firsts", t)] = [(Str.ofString "firsts", t), (Str.ofString "events", u)] := by
  have h : ¬ (Str.ofString "firsts" = Str.ofString "events") := by decide +kernel
  simp [putFP, h]
end Pw
end
section
namespace Tk
open PySem PySem.Spec PyProof.Rows L2 TreeL Pw
@[local simp] theorem LIM_eqtf : LIM = 1000000 := rfl
abbrev ks : List Nat := [14, 15]
def Odd (v : PV) : Prop := (∃ n, dat n v = true) ∨ ∃ fs, v = .ins 15 fs
def blB : PV → Bool
  | .bl _ => true
  | _ => false
theorem is_name_odd {v : PV} (h : Odd v) : Lib.F_is_name ks [.t v] = .ret (.t (.bl (nmB v))) [.t v] := by
  rcases h with ⟨n, h⟩ | ⟨fs, rfl⟩
  · exact is_name_dat h
  · rfl
theorem isb_odd {v : PV} (h : Odd v) : isiF (tbY [.bl]) ks v = some (blB v) := by
  rcases h with ⟨n, h⟩ | ⟨fs, rfl⟩
  · cases v <;> first | rfl | (cases n <;> cases h)
  · rfl
theorem law_bool {v : PV} (h : Odd v) : Lib.F_h_is_bool ks [.t v] = .ret (.t (.bl (blB v))) [.t v] := by
  have b := isb_odd h
  simp [-isiF, Lib.F_h_is_bool, fDef, Lib.ev_h_is_bool, b]
theorem ninA (n : Nat) : ninP (.str ⟨#[n]⟩) (.str "abcdefghijklmnopqrstuvwxyz") = some (.bl (!decide (n ∈ alphaL))) := rfl
theorem ne_nilL (L : List PV) (h : datL 63 L = true) : eqP (.lst L) (.lst []) = some (.bl L.isEmpty) := by
  have d : dat 64 (.lst L) = true := by rw [dat]; exact h
  unfold eqP
  rw [d]
  cases L <;> rfl
theorem law_name_str (s : Str) : Lib.F_h_is_name_d ks [.t (.str s)] = .ret (.t (.bl (nmS s))) [.t (.str s)] := by
  have hb := in_strsL s barL
  rw [show (barL.any fun z => z == s) = barB s from rfl] at hb
  have e : eLst (aCons (eCon (.str "and")) (aCons (eCon (.str "any")) (aCons (eCon (.str "do")) (aCons (eCon (.str "if")) (aCons (eCon (.str "none")) (aCons (eCon (.str "not")) (aCons (eCon (.str "same")) (aCons (eCon (.str "send")) (aCons (eCon (.str "then")) (aCons (eCon (.str "time")) (aCons (eCon (.str "to")) (aCons (eCon (.str "wipe")) (aCons (eCon (.str "work")) aNil))))))))))))) [some (.t (.str s)), none, none] = .ok (.tr (.lst (barL.map .str))) [some (.t (.str s)), none, none] := by
    simp [barL]
  have s1 : sAsg (eLst (aCons (eCon (.str "and")) (aCons (eCon (.str "any")) (aCons (eCon (.str "do")) (aCons (eCon (.str "if")) (aCons (eCon (.str "none")) (aCons (eCon (.str "not")) (aCons (eCon (.str "same")) (aCons (eCon (.str "send")) (aCons (eCon (.str "then")) (aCons (eCon (.str "time")) (aCons (eCon (.str "to")) (aCons (eCon (.str "wipe")) (aCons (eCon (.str "work")) aNil)))))))))))))) (gNm 1) [some (.t (.str s)), none, none] = .nx [some (.t (.str s)), some (.t (.lst (barL.map .str))), none] := by
    generalize eLst _ = E at *
    generalize barL.map PV.str = B at *
    simp [e]
  unfold Lib.F_h_is_name_d
  rw [fDef_of rfl, show env0 3 [Arg.t (.str s)] = [some (.t (.str s)), none, none] from rfl]
  unfold Lib.ev_h_is_name_d
  rw [seq_nxR s1]
  clear e s1
  generalize barL.map PV.str = BL at *
  by_cases h1 : 0 < s.length
  · by_cases h4 : s.length < 5
    · have g1 : (0 : Int) < (s.length : Int) := by omega
      have g4 : ((s.length : Nat) : Int) < 5 := by omega
      have n1 : 1 ≤ s.length := h1
      have n4 : s.length ≤ 4 := by omega
      cases hq : barB s with
      | true =>
        rw [hq] at hb
        simp [lenF, h1, g1, g4, hb, nmS, n1, n4, hq]
      | false =>
        rw [hq] at hb
        have c1 := compX (et := tBl (eBin ninP (eVar 2) (eCon (.str "abcdefghijklmnopqrstuvwxyz")))) (ea := eVar 2) (al := alive (.tr .non) (TreeL.signs s)) (env := [some (.t (.str s)), some (.t (.lst BL)), none]) (j := 2) (fun n => PV.str ⟨#[n]⟩) (fun n => !decide (n ∈ alphaL)) (fun n => PV.str ⟨#[n]⟩) rfl rfl (TL.tl s) [] (by rw [tl_len]; simp; omega) (fun n _ => ⟨by simp [ninA], fun _ => by simp⟩)
        rw [← signs_tl, List.nil_append] at c1
        have eqn : eqP (.lst (((TL.tl s).filter fun n => !decide (n ∈ alphaL)).map fun n => PV.str ⟨#[n]⟩)) (.lst []) = some (.bl ((TL.tl s).all fun n => decide (n ∈ alphaL))) := by
          rw [ne_nilL _ (by rw [datL_all, List.all_map, List.all_eq_true]; intro x _; rfl), List.isEmpty_map]
          congr 2
          rw [Bool.eq_iff_iff, List.isEmpty_iff, List.filter_eq_nil_iff, List.all_eq_true]
          exact ⟨fun h x hx => by have := h x hx; simpa using this, fun h x hx => by have := h x hx; simpa using this⟩
        generalize ((TL.tl s).filter fun n => !decide (n ∈ alphaL)).map (fun n => PV.str ⟨#[n]⟩) = FL at *
        simp [lenF, h1, g1, g4, hb, nmS, n1, n4, hq, c1, eqn]
    · have g4 : ¬ ((s.length : Nat) : Int) < 5 := by omega
      have g1 : (0 : Int) < (s.length : Int) := by omega
      have n4 : ¬ s.length ≤ 4 := by omega
      simp [lenF, h1, g1, g4, nmS, n4]
  · have g1 : ¬ (0 : Int) < (s.length : Int) := by omega
    have n1 : ¬ 1 ≤ s.length := by omega
    simp [lenF, h1, g1, nmS, n1]
theorem law_name_odd {v : PV} (h : Odd v) : Lib.F_h_is_name_d ks [.t v] = .ret (.t (.bl (nmB v))) [.t v] := by
  rcases h with ⟨n, h⟩ | ⟨fs, rfl⟩
  · cases v with
    | str s => exact law_name_str s
    | non => rfl
    | bl b => rfl
    | int i => rfl
    | lst xs => rfl
    | tup xs => rfl
    | _ => cases n <;> cases h
  · rfl
def dueW (a b c : PV) : Str := if nmB a = true then (if blB b = true then (if blB c = true then "made" else "sure") else "back") else "name"
theorem due_ok {a b c : PV} (ha : Odd a) (hb : Odd b) (hc : Odd c) : Lib.F_h_task_due ks [.t a, .t b, .t c] = .ret (.t (.str (dueW a b c))) [.t a, .t b, .t c] := by
  have h1 := law_name_odd ha
  have h2 := law_bool hb
  have h3 := law_bool hc
  unfold dueW
  cases e1 : nmB a <;> cases e2 : blB b <;> cases e3 : blB c <;> (rw [e1] at h1; rw [e2] at h2; rw [e3] at h3; simp [Lib.F_h_task_due, fDef, Lib.ev_h_task_due, h1, h2, h3])
abbrev tkF (a b c : PV) : List (Str × PV) := [("name", a), ("back", b), ("sure", c)]
theorem task_init {a b c : PV} (ha : Odd a) (hb : Odd b) (hc : Odd c) : Lib.F_Task___init__ ks [.ow (.ins 14 []), .t a, .t b, .t c] =
    if (nmB a && (blB b && blB c)) = true then .ret (.t .non) [.ow (.ins 14 (tkF a b c)), .t a, .t b, .t c] else .exc ⟨24, [("word", .str (dueW a b c))]⟩ [.ow (.ins 14 []), .t a, .t b, .t c] := by
  have h1 := is_name_odd ha
  have h2 := isb_odd hb
  have h3 := isb_odd hc
  unfold dueW
  cases e1 : nmB a with
  | false => rw [e1] at h1; simp [-isiF, Lib.F_Task___init__, fDef, Lib.ev_Task___init__, h1]
  | true =>
    rw [e1] at h1
    cases e2 : blB b with
    | false => rw [e2] at h2; simp [-isiF, Lib.F_Task___init__, fDef, Lib.ev_Task___init__, h1, h2]
    | true =>
      rw [e2] at h2
      cases e3 : blB c with
      | false => rw [e3] at h3; simp [-isiF, Lib.F_Task___init__, fDef, Lib.ev_Task___init__, h1, h2, h3]
      | true =>
        rw [e3] at h3
        have p : putFP "sure" c (putFP "back" b (putFP "name" a [])) = tkF a b c := by kernel_rfl
        have l1 : (putFP "name" a []).length < 1000 := by
          rw [show (putFP "name" a []).length = 1 from rfl]; decide
        have l2 : (putFP "back" b (putFP "name" a [])).length < 1000 := by
          rw [show (putFP "back" b (putFP "name" a [])).length = 2 from by kernel_rfl]; decide
        simp [-isiF, Lib.F_Task___init__, fDef, Lib.ev_Task___init__, h1, h2, h3, sFldT, l1, l2, p]
end Tk
end
section
namespace Tk
open PySem PySem.Spec PyProof.Rows L2 TreeL Pw
@[local simp] theorem LIM_eqtg : LIM = 1000000 := rfl
abbrev TkT := Str × Bool × Bool
abbrev tkV (t : TkT) : PV := .ins 14 (tkF (.str t.1) (.bl t.2.1) (.bl t.2.2))
def strIn (names : List Str) : PV → Bool
  | .str s => names.contains s
  | _ => false
def needB (names : List Str) : PV → Bool
  | .tup xs => decide (xs.length = 2) && xs.all (strIn names)
  | _ => false
theorem in_c' (s : Str) (fs : List Str) : inP (.str s) (.lst (fs.map .str)) = some (.bl (fs.contains s)) := by
  rw [in_strsL]
  congr 2
  rw [Bool.eq_iff_iff, List.any_eq_true, List.contains_iff_mem]
  exact ⟨fun ⟨z, hz, e⟩ => by have : z = s := by simpa using e
                              rw [← this]; exact hz, fun h => ⟨s, h, by simp⟩⟩
theorem need_ok {x : PV} {n : Nat} (hd : dat (n + 1) x = true) (names : List Str) (hl : (items x).length ≤ 1000) : Lib.F_is_need ks [.t x, .t (.lst (names.map .str))] = .ret (.t (.bl (needB names x))) [.t x, .t (.lst (names.map .str))] := by
  cases x with
  | tup xs =>
    have len : lenF [.tup xs] = some (.t (.int xs.length)) := rfl
    have ne : neP (.int xs.length) (.int 2) = some (.bl (!decide (xs.length = 2))) := by
      simp only [neP, dat, Bool.and_self, if_true, peq]
      congr 3
      rw [Bool.eq_iff_iff]
      simp only [beq_iff_eq, decide_eq_true_iff]
      omega
    have ii : isiF (tbY [.tup]) ks (.tup xs) = some true := rfl
    have nb : needB names (.tup xs) = (decide (xs.length = 2) && xs.all (strIn names)) := rfl
    rw [nb]
    by_cases h2 : xs.length = 2
    · rw [decide_eq_true h2] at ne ⊢
      have q := comp_m (ei := iAny [0, 1] (eVar 0)) (ea := eAnd (eIsi (tbY [.str]) ks (eVar 2)) (eBin inP (eVar 2) (eVar 1))) (env := [some (.t (.tup xs)), some (.t (.lst (names.map .str))), none]) (j := 2) (a := .tr .non) id (fun y => PV.bl (strIn names y)) (xs := xs) (by
        rw [List.map_id]
        generalize names.map PV.str = L
        simp) rfl rfl (by omega) (fun y hy => by
        have dy : dat n y = true := by
          rw [dat, datL_all, List.all_eq_true] at hd
          exact hd y hy
        simp only [id]
        cases y with
        | str s =>
          have c := in_c' s names
          have i1 : isiF (tbY [.str]) ks (.str s) = some true := rfl
          have sb : strIn names (.str s) = names.contains s := rfl
          rw [sb]
          generalize names.contains s = B at *
          generalize names.map PV.str = L at *
          simp [-isiF, i1, c]
        | non => generalize names.map PV.str = L; simp [strIn]
        | bl b => generalize names.map PV.str = L; simp [strIn]
        | int i => generalize names.map PV.str = L; simp [strIn]
        | lst l => generalize names.map PV.str = L; simp [strIn]
        | tup l => generalize names.map PV.str = L; simp [strIn]
        | _ => cases n <;> cases dy)
      have al := allF_map (strIn names) xs
      unfold Lib.F_is_need
      rw [fDef_of rfl, show env0 3 [Arg.t (.tup xs), Arg.t (.lst (names.map .str))] = [some (.t (.tup xs)), some (.t (.lst (names.map .str))), none] from rfl]
      unfold Lib.ev_is_need
      generalize eOf (fComp _ _ _ _ _) = E at *
      generalize xs.map (fun y => PV.bl (strIn names y)) = Y at *
      generalize xs.all (strIn names) = B at *
      generalize names.map PV.str = L at *
      generalize (xs.length : Int) = M at *
      simp [-isiF, ii, len, ne, q, al]
    · rw [decide_eq_false h2] at ne ⊢
      unfold Lib.F_is_need
      rw [fDef_of rfl, show env0 3 [Arg.t (.tup xs), Arg.t (.lst (names.map .str))] = [some (.t (.tup xs)), some (.t (.lst (names.map .str))), none] from rfl]
      unfold Lib.ev_is_need
      generalize eOf (fComp _ _ _ _ _) = E at *
      generalize names.map PV.str = L at *
      generalize (xs.length : Int) = M at *
      simp [-isiF, ii, len, ne]
  | non => rfl
  | bl b => rfl
  | int i => rfl
  | str s => rfl
  | lst l => rfl
  | _ => cases hd
variable {v u : PV} {xs us : List PV} {ts : List TkT} {ps : List Pr2}
def istk : PV → Bool
  | .ins 14 _ => true
  | _ => false
abbrev W (v u : PV) (x3 x4 x5 : Option TreeL.Arg) : En := [some (.ow (.ins 15 [])), some (.t v), some (.t u), x3, x4, x5]
abbrev exT (w : Str) (v u : PV) : FR := .exc ⟨24, [("word", .str w)]⟩ [.ow (.ins 15 []), .t v, .t u]
def SeqV (v : PV) (xs : List PV) : Prop := v = .lst xs ∨ v = .tup xs
theorem SeqV.seq (h : SeqV v xs) : Lib.F_is_sequence ks [.t v] = .ret (.t (.bl true)) [.t v] := by
  rcases h with rfl | rfl <;> rfl
theorem no_seq (h : Lib.F_is_sequence ks [.t v] = .ret (.t (.bl false)) [.t v]) : Lib.F_Tasks___init__ ks [.ow (.ins 15 []), .t v, .t u] = exT "tasks" v u := by
  simp [Lib.F_Tasks___init__, fDef, Lib.ev_Tasks___init__, h]
theorem comp_tk (h : SeqV v xs) (hl : xs.length ≤ 1000) (ok : ∀ x ∈ xs, isiF (tbY [.ins 14]) ks x = some (istk x)) : eOf (fComp (iAny [0, 1, 2] (eVar 1)) (gNm 3) tYesT (eIsi (tbY [.ins 14]) ks (eVar 3)) [3]) (W v u none none none) = .ok (.tr (.lst (xs.map fun x => .bl (istk x)))) (W v u none none none) :=
  comp_m (ei := iAny [0, 1, 2] (eVar 1)) (ea := eIsi (tbY [.ins 14]) ks (eVar 3)) (env := W v u none none none) (j := 3) (a := .tr .non) id (fun x => PV.bl (istk x)) (xs := xs) (by
    rw [List.map_id]
    rcases h with rfl | rfl <;> simp) rfl rfl (by omega) (fun x hx => by
    have o := ok x hx
    simp only [id]
    simp [-isiF, o])
theorem not_task (h : SeqV v xs) (hl : xs.length ≤ 1000) (ok : ∀ x ∈ xs, isiF (tbY [.ins 14]) ks x = some (istk x)) (no : xs.all istk = false) : Lib.F_Tasks___init__ ks [.ow (.ins 15 []), .t v, .t u] = exT "tasks" v u := by
  have s := h.seq
  have q := comp_tk (u := u) h hl ok
  have al := allF_map istk xs
  rw [no] at al
  unfold Lib.F_Tasks___init__
  rw [fDef_of rfl, show env0 6 [Arg.ow (.ins 15 []), Arg.t v, Arg.t u] = W v u none none none from rfl]
  unfold Lib.ev_Tasks___init__
  generalize eOf (fComp (iAny [0, 1, 2] (eVar 1)) (gNm 3) tYesT (eIsi (tbY [.ins 14]) ks (eVar 3)) [3]) = E at *
  generalize xs.map (fun x => PV.bl (istk x)) = Y at *
  simp [s, q, al]
theorem tk_all (ts : List TkT) : (∀ x ∈ ts.map tkV, isiF (tbY [.ins 14]) ks x = some (istk x)) ∧ (ts.map tkV).all istk = true := by
  constructor
  · intro x hx
    obtain ⟨t, _, rfl⟩ := List.mem_map.mp hx
    rfl
  · rw [List.all_map, List.all_eq_true]
    intro t _
    rfl
theorem st_names (h : SeqV v (ts.map tkV)) (hl : ts.length ≤ 1000) : ∀ rest : EvS, (sSeq (sIf (tOrr (tNt (tTru (eRes (rCall 1 (Lib.F_is_sequence ks) [] (aCons (eVar 1) aNil))))) (tNt (tTru (eRes (rBui allF (aCons (eOf (fComp (iAny [0, 1, 2] (eVar 1)) (gNm 3) tYesT (eIsi (tbY [.ins 14]) ks (eVar 3)) [3])) aNil)))))) (sRaise 24 "word" (eCon (.str "tasks"))) sSkip)
  (sSeq (sAsg (eOf (fComp (iAny [0, 1, 2] (eVar 1)) (gNm 3) tYesT (eFl [2, 14] ks "name" (eVar 3)) [3])) (gNm 4)) rest)) (W v u none none none) = rest (W v u none (some (.t (.lst ((ts.map (·.1)).map .str)))) none) := fun rest => by
  have s := h.seq
  obtain ⟨ok, all⟩ := tk_all ts
  have q := comp_tk (u := u) h (by rw [List.length_map]; exact hl) ok
  have al := allF_map istk (ts.map tkV)
  rw [all] at al
  have q2 := comp_m (ei := iAny [0, 1, 2] (eVar 1)) (ea := eFl [2, 14] ks "name" (eVar 3)) (env := W v u none none none) (j := 3) (a := .tr .non) tkV (fun t => PV.str t.1) (xs := ts) (by
    rcases h with rfl | rfl
    · generalize ts.map tkV = L
      simp
    · generalize ts.map tkV = L
      simp) rfl rfl (by omega) (fun t _ => by
    have l : (tkF (.str t.1) (.bl t.2.1) (.bl t.2.2)).lookup (Str.ofString "name") = some (.str t.1) := by kernel_rfl
    simp only [tkV]
    generalize tkF (.str t.1) (.bl t.2.1) (.bl t.2.2) = F at *
    simp [l])
  have e : (ts.map fun t => PV.str t.1) = (ts.map (·.1)).map .str := by rw [List.map_map]; rfl
  rw [e] at q2
  rw [seq_nxR (e := W v u none none none) (by
    clear q2
    generalize eOf (fComp (iAny [0, 1, 2] (eVar 1)) (gNm 3) tYesT (eIsi (tbY [.ins 14]) ks (eVar 3)) [3]) = E at *
    generalize (ts.map tkV).map (fun x => PV.bl (istk x)) = Y at *
    simp [s, q, al])]
  rw [seq_nxR (e := W v u none (some (.t (.lst ((ts.map (·.1)).map .str)))) none) (by
    generalize eOf (fComp (iAny [0, 1, 2] (eVar 1)) (gNm 3) tYesT (eFl [2, 14] ks "name" (eVar 3)) [3]) = E at *
    generalize (ts.map (·.1)).map PV.str = Y at *
    simp [q2])]
theorem once_nodup {l : List Str} (h : l.Nodup) : (onceS [] l).length = l.length := by
  have g : ∀ (m s : List Str), (s ++ m).Nodup → onceS s m = s ++ m := fun m => by
    induction m with
    | nil => intro s _; simp [onceS]
    | cons x m ih =>
      intro s hs
      have nx : x ∉ s := fun hx => (List.nodup_append.mp hs).2.2 x hx x List.mem_cons_self rfl
      have st : step_dedup s x = s ++ [x] := by
        unfold step_dedup
        rw [if_neg]
        intro z
        obtain ⟨y, hy, e⟩ := List.any_eq_true.mp z
        have : y = x := by simpa using e
        exact nx (by rw [← this]; exact hy)
      show onceS (step_dedup s x) m = _
      rw [st, ih (s ++ [x]) (by rw [List.append_assoc]; exact hs), List.append_assoc]
      rfl
  rw [g l [] (by simpa using h)]
  rfl
theorem once_twice {l : List Str} {x : Str} (hx : x ∈ l) : (onceS [] (l ++ [x])).length < (l ++ [x]).length := by
  have e : onceS [] (l ++ [x]) = step_dedup (onceS [] l) x := by unfold onceS; rw [List.foldl_append]; rfl
  have any : ∀ (m s : List Str), x ∈ m ∨ x ∈ s → x ∈ onceS s m := fun m => by
    induction m with
    | nil => intro s h; simpa [onceS] using h
    | cons y m ih =>
      intro s h
      refine ih _ ?_
      by_cases z : x ∈ m
      · exact .inl z
      · refine .inr ?_
        have : (step_dedup s y).any (· == x) = true := by
          rw [once_any]
          rcases h with h | h
          · rcases List.mem_cons.mp h with r | r
            · rw [r]; simp
            · exact absurd r z
          · have : s.any (· == x) = true := List.any_eq_true.mpr ⟨x, h, by simp⟩
            rw [this]; rfl
        obtain ⟨w, hw, e⟩ := List.any_eq_true.mp this
        have : w = x := by simpa using e
        rw [← this]; exact hw
  have mem := any l [] (.inl hx)
  rw [e, once_len, if_pos (List.any_eq_true.mpr ⟨x, mem, by simp⟩), List.length_append, List.length_singleton]
  have := foldl_step_dedup_nil_length_le l
  show (onceS [] l).length < _
  unfold onceS
  omega
end Tk
end
section
namespace Tk
open PySem PySem.Spec PyProof.Rows L2 TreeL Pw
@[local simp] theorem LIM_eqth : LIM = 1000000 := rfl
variable {v u : PV} {xs us : List PV} {ts : List TkT} {ps : List Pr2}
abbrev nmL (ts : List TkT) : List Str := ts.map (·.1)
abbrev Wn (v u : PV) (L : List PV) : En := W v u none (some (.t (.lst L))) none
theorem test_names (hl : ts.length ≤ 1000) : (tBl (eBin ltP (eLenSet (eVar 4)) (eRes (rBui lenF (aCons (eVar 4) aNil))))) (Wn v u ((nmL ts).map .str)) = .ok (decide ((onceS [] (nmL ts)).length < (nmL ts).length)) (Wn v u ((nmL ts).map .str)) := by
  have s := strsP_map (nmL ts)
  have l1 : (nmL ts).length ≤ 4000 := by rw [List.length_map]; omega
  have lf : lenF [.lst ((nmL ts).map .str)] = some (.t (.int (nmL ts).length)) := by show some (Arg.t (.int (((nmL ts).map PV.str).length : Int))) = _; rw [List.length_map]
  have lt : ltP (.int (onceS [] (nmL ts)).length) (.int (nmL ts).length) = some (.bl (decide ((onceS [] (nmL ts)).length < (nmL ts).length))) := by
    show some (PV.bl (decide (((onceS [] (nmL ts)).length : Int) < ((nmL ts).length : Int)))) = _
    congr 2
    rw [Bool.eq_iff_iff, decide_eq_true_iff, decide_eq_true_iff]
    omega
  generalize decide ((onceS [] (nmL ts)).length < (nmL ts).length) = B at *
  generalize hN : nmL ts = N at *
  generalize N.map PV.str = L at *
  simp [-ltP, s, l1, lf, lt]
abbrev restT : EvS := (sSeq (sIf (tBl (eBin ltP (eLenSet (eVar 4)) (eRes (rBui lenF (aCons (eVar 4) aNil))))) (sRaise 24 "word" (eCon (.str "name"))) sSkip)
  (sSeq (sIf (tOrr (tNt (tTru (eRes (rCall 1 (Lib.F_is_sequence ks) [] (aCons (eVar 2) aNil))))) (tNt (tTru (eRes (rBui allF (aCons (eOf (fComp (iAny [0, 1, 2] (eVar 2)) (gNm 5) tYesT (eRes (rCall 2 (Lib.F_is_need ks) [] (aCons (eVar 5) (aCons (eVar 4) aNil)))) [5])) aNil)))))) (sRaise 24 "word" (eCon (.str "needs"))) sSkip)
  (sSeq (sIf (tTru (eRes (rCall 1 Lib.F_has_ring [] (aCons (eVar 2) aNil)))) (sRaise 24 "word" (eCon (.str "ring"))) sSkip)
  (sSeq (sFldT 0 15 "tasks" (eRes (rBui tupleF (aCons (eVar 1) aNil))))
  (sFldT 0 15 "needs" (eRes (rBui tupleF (aCons (eVar 2) aNil))))))))
theorem tasks_rest (h : SeqV v (ts.map tkV)) (hl : ts.length ≤ 1000) : Lib.F_Tasks___init__ ks [.ow (.ins 15 []), .t v, .t u] = (match restT (Wn v u ((nmL ts).map .str)) with
    | .nx e => .ret (.t .non) (upArgs [.ow (.ins 15 []), .t v, .t u] e)
    | .rt a e => .ret a (upArgs [.ow (.ins 15 []), .t v, .t u] e)
    | .exc x e => .exc x (upArgs [.ow (.ins 15 []), .t v, .t u] e)
    | _ => .bad) := by
  unfold Lib.F_Tasks___init__
  rw [fDef_of rfl, show env0 6 [Arg.ow (.ins 15 []), Arg.t v, Arg.t u] = W v u none none none from rfl]
  unfold Lib.ev_Tasks___init__
  first
    | (rw [st_names h hl]; done)
    | (rw [st_names h hl]
       show (match restT (Wn v u ((nmL ts).map .str)) with | .nx e => _ | .rt a e => _ | .exc x e => _ | _ => _) = _
       cases restT (Wn v u ((nmL ts).map .str)) <;> rfl)
theorem name_twice (h : SeqV v (ts.map tkV)) (hl : ts.length ≤ 1000) (tw : (onceS [] (nmL ts)).length < (nmL ts).length) : Lib.F_Tasks___init__ ks [.ow (.ins 15 []), .t v, .t u] = exT "name" v u := by
  have t := test_names (v := v) (u := u) hl
  rw [decide_eq_true tw] at t
  rw [tasks_rest h hl]
  have e : restT (Wn v u ((nmL ts).map .str)) = .exc ⟨24, [("word", .str "name")]⟩ (Wn v u ((nmL ts).map .str)) := by
    unfold restT
    generalize tBl (eBin ltP (eLenSet (eVar 4)) (eRes (rBui lenF (aCons (eVar 4) aNil)))) = TT at *
    generalize (nmL ts).map PV.str = L at *
    simp [t]
  rw [e]
  rfl
theorem st_once (hl : ts.length ≤ 1000) (nd : (nmL ts).Nodup) : (sIf (tBl (eBin ltP (eLenSet (eVar 4)) (eRes (rBui lenF (aCons (eVar 4) aNil))))) (sRaise 24 "word" (eCon (.str "name"))) sSkip) (Wn v u ((nmL ts).map .str)) = .nx (Wn v u ((nmL ts).map .str)) := by
  have t := test_names (v := v) (u := u) hl
  rw [once_nodup nd, decide_eq_false (Nat.lt_irrefl _)] at t
  unfold sIf
  rw [t]
  rfl
theorem needs_no (h : SeqV v (ts.map tkV)) (hl : ts.length ≤ 1000) (nd : (nmL ts).Nodup) (hu : Lib.F_is_sequence ks [.t u] = .ret (.t (.bl false)) [.t u]) : Lib.F_Tasks___init__ ks [.ow (.ins 15 []), .t v, .t u] = exT "needs" v u := by
  rw [tasks_rest h hl]
  have e : restT (Wn v u ((nmL ts).map .str)) = .exc ⟨24, [("word", .str "needs")]⟩ (Wn v u ((nmL ts).map .str)) := by
    unfold restT
    rw [seq_nxR (st_once hl nd)]
    generalize eOf (fComp _ _ _ _ _) = E
    generalize (nmL ts).map PV.str = L at *
    simp [hu]
  rw [e]
  rfl
theorem comp_need {n : Nat} (hu : SeqV u us) (hd : ∀ x ∈ us, dat (n + 1) x = true ∧ (items x).length ≤ 1000) (hl : us.length ≤ 1000) : eOf (fComp (iAny [0, 1, 2] (eVar 2)) (gNm 5) tYesT (eRes (rCall 2 (Lib.F_is_need ks) [] (aCons (eVar 5) (aCons (eVar 4) aNil)))) [5]) (Wn v u ((nmL ts).map .str)) = .ok (.tr (.lst (us.map fun x => .bl (needB (nmL ts) x)))) (Wn v u ((nmL ts).map .str)) :=
  comp_m (ei := iAny [0, 1, 2] (eVar 2)) (ea := eRes (rCall 2 (Lib.F_is_need ks) [] (aCons (eVar 5) (aCons (eVar 4) aNil)))) (env := Wn v u ((nmL ts).map .str)) (j := 5) (a := .tr .non) id (fun x => PV.bl (needB (nmL ts) x)) (xs := us) (by
    rw [List.map_id]
    generalize (nmL ts).map PV.str = L
    rcases hu with rfl | rfl <;> simp) rfl rfl (by omega) (fun x hx => by
    have o := need_ok (hd x hx).1 (nmL ts) (hd x hx).2
    simp only [id]
    generalize needB (nmL ts) x = B at *
    generalize (nmL ts).map PV.str = L at *
    simp [o])
theorem needs_bad {n : Nat} (h : SeqV v (ts.map tkV)) (hl : ts.length ≤ 1000) (nd : (nmL ts).Nodup) (hu : SeqV u us) (hd : ∀ x ∈ us, dat (n + 1) x = true ∧ (items x).length ≤ 1000) (lu : us.length ≤ 1000) (no : us.all (needB (nmL ts)) = false) : Lib.F_Tasks___init__ ks [.ow (.ins 15 []), .t v, .t u] = exT "needs" v u := by
  have s := hu.seq
  have q := comp_need (v := v) (ts := ts) hu hd lu
  have al := allF_map (needB (nmL ts)) us
  rw [no] at al
  rw [tasks_rest h hl]
  have e : restT (Wn v u ((nmL ts).map .str)) = .exc ⟨24, [("word", .str "needs")]⟩ (Wn v u ((nmL ts).map .str)) := by
    unfold restT
    rw [seq_nxR (st_once hl nd)]
    generalize eOf (fComp (iAny [0, 1, 2] (eVar 2)) (gNm 5) tYesT (eRes (rCall 2 (Lib.F_is_need ks) [] (aCons (eVar 5) (aCons (eVar 4) aNil)))) [5]) = E at *
    generalize us.map (fun x => PV.bl (needB (nmL ts) x)) = Y at *
    generalize (nmL ts).map PV.str = L at *
    simp [s, q, al]
  rw [e]
  rfl
abbrev tsF (a b : PV) : List (Str × PV) := [("tasks", a), ("needs", b)]
theorem tup_of (h : SeqV v xs) : tupleF [v] = some (.t (.tup xs)) := by
  rcases h with rfl | rfl <;> rfl
theorem tasks_end (h : SeqV v (ts.map tkV)) (hl : ts.length ≤ 20) (nd : (nmL ts).Nodup) (hu : SeqV u (ps.map prP)) (lu : ps.length ≤ 1000) (hN : ∀ p ∈ ps, p.1 ∈ nmL ts ∧ p.2 ∈ nmL ts) (g : GoodP ps) :
    ((∃ a, Lead ps a a) → Lib.F_Tasks___init__ ks [.ow (.ins 15 []), .t v, .t u] = exT "ring" v u) ∧
    ((¬ ∃ a, Lead ps a a) → Lib.F_Tasks___init__ ks [.ow (.ins 15 []), .t v, .t u] = .ret (.t .non) [.ow (.ins 15 (tsF (.tup (ts.map tkV)) (.tup (ps.map prP)))), .t v, .t u]) := by
  have s := hu.seq
  have q := comp_need (v := v) (ts := ts) (n := 5) hu (fun x hx => by
    obtain ⟨p, _, rfl⟩ := List.mem_map.mp hx
    exact ⟨rfl, by show 2 ≤ 1000; decide⟩) (by rw [List.length_map]; exact lu)
  have yes : (ps.map prP).all (needB (nmL ts)) = true := by
    rw [List.all_map, List.all_eq_true]
    intro p hp
    obtain ⟨h1, h2⟩ := hN p hp
    show (decide (2 = 2) && ([PV.str p.1, PV.str p.2].all (strIn (nmL ts)))) = true
    simp only [List.all_cons, List.all_nil, Bool.and_true, decide_true, Bool.true_and, Bool.and_eq_true]
    exact ⟨List.contains_iff_mem.mpr h1, List.contains_iff_mem.mpr h2⟩
  have al := allF_map (needB (nmL ts)) (ps.map prP)
  rw [yes] at al
  have ln : (nmL ts).length ≤ 20 := by rw [List.length_map]; exact hl
  obtain ⟨b, hr, hb⟩ := has_ring_ok (v := u) (N := nmL ts) hu hN (Nat.lt_of_le_of_lt (Nat.mul_le_mul ln ln) (by decide)) lu g
  have tv := tup_of h
  have tu := tup_of hu
  have pf : putFP "needs" (.tup (ps.map prP)) (putFP "tasks" (.tup (ts.map tkV)) []) = tsF (.tup (ts.map tkV)) (.tup (ps.map prP)) := by
    generalize ps.map prP = A
    generalize ts.map tkV = B
    kernel_rfl
  have l1 : (putFP "tasks" (.tup (ts.map tkV)) []).length < 1000 := by
    generalize ts.map tkV = B
    rw [show (putFP "tasks" (.tup B) []).length = 1 from rfl]; decide
  rw [tasks_rest h (by omega)]
  have st : ∀ rest : EvS, sSeq (sIf (tBl (eBin ltP (eLenSet (eVar 4)) (eRes (rBui lenF (aCons (eVar 4) aNil))))) (sRaise 24 "word" (eCon (.str "name"))) sSkip)
      (sSeq (sIf (tOrr (tNt (tTru (eRes (rCall 1 (Lib.F_is_sequence ks) [] (aCons (eVar 2) aNil))))) (tNt (tTru (eRes (rBui allF (aCons (eOf (fComp (iAny [0, 1, 2] (eVar 2)) (gNm 5) tYesT (eRes (rCall 2 (Lib.F_is_need ks) [] (aCons (eVar 5) (aCons (eVar 4) aNil)))) [5])) aNil)))))) (sRaise 24 "word" (eCon (.str "needs"))) sSkip) rest) (Wn v u ((nmL ts).map .str)) = rest (Wn v u ((nmL ts).map .str)) := fun rest => by
    rw [seq_nxR (st_once (by omega) nd)]
    refine seq_nxR ?_
    generalize eOf (fComp (iAny [0, 1, 2] (eVar 2)) (gNm 5) tYesT (eRes (rCall 2 (Lib.F_is_need ks) [] (aCons (eVar 5) (aCons (eVar 4) aNil)))) [5]) = E at *
    generalize (ps.map prP).map (fun x => PV.bl (needB (nmL ts) x)) = Y at *
    generalize (nmL ts).map PV.str = L at *
    simp [s, q, al]
  unfold restT
  rw [st]
  clear st q al s
  constructor
  · intro ex
    rw [hb.mpr ex] at hr
    generalize (nmL ts).map PV.str = L at *
    simp [hr]
  · intro no
    have bf : b = false := by
      cases b with
      | false => rfl
      | true => exact absurd (hb.mp rfl) no
    rw [bf] at hr
    generalize (nmL ts).map PV.str = L at *
    generalize ps.map prP = A at *
    generalize ts.map tkV = B at *
    simp [hr, sFldT, tv, tu, l1, pf]
end Tk
end
section
namespace Tk
open PySem PySem.Spec PyProof.Rows L2 TreeL Pw
@[local simp] theorem LIM_eqti : LIM = 1000000 := rfl
theorem mixed_perm {α : Type} {o : OS} (f : α → PV) (g : PV → α) (hg : ∀ x, g (f x) = x) {xs : List α} (h : IsBoxC o) (hm : xs.length < 1000) (hd : ∀ x ∈ xs, dat 63 (f x) = true) :
    ∃ (ys : List α) (o' : OS), Lib.F_h_mixed_b [.ow o, .t (.lst (xs.map f))] = .ret (.ow (.lst (ys.map f))) [.ow o', .t (.lst (xs.map f))] ∧ ys.Perm xs ∧ IsBoxC o' := by
  obtain ⟨zs, o', q, hp, hb⟩ := mixed_spec (xs := xs.map f) h (by rw [List.length_map]; exact hm) (fun x hx => by obtain ⟨w, hw, rfl⟩ := List.mem_map.mp hx; exact hd w hw)
  have ex : ∀ l : List PV, (∀ z ∈ l, z ∈ xs.map f) → ∃ ys : List α, l = ys.map f := fun l => by
    induction l with
    | nil => exact fun _ => ⟨[], rfl⟩
    | cons z l ih =>
      intro hl
      obtain ⟨w, _, rfl⟩ := List.mem_map.mp (hl z List.mem_cons_self)
      obtain ⟨ys, rfl⟩ := ih fun z hz => hl z (List.mem_cons_of_mem _ hz)
      exact ⟨w :: ys, rfl⟩
  obtain ⟨ys, rfl⟩ := ex zs fun z hz => hp.subset hz
  refine ⟨ys, o', q, ?_, hb⟩
  have := hp.map g
  rw [List.map_map, List.map_map] at this
  have e : ∀ l : List α, l.map (g ∘ f) = l := fun l => by
    rw [show (g ∘ f) = id from funext hg, List.map_id]
  rwa [e, e] at this
def nine : List Str := ["pay", "hold", "book", "mail", "a", "ab", "abc", "zzzz", "made"]
theorem nine_nd : nine.Nodup := by
  have : (decide nine.Nodup) = true := by decide +kernel
  exact of_decide_eq_true this
abbrev t3P (t : TkT) : PV := .tup [.str t.1, .bl t.2.1, .bl t.2.2]
abbrev Ev8 (o : OS) (x2 x3 : PV) (ps : List Pr2) (x6 x7 : Option TreeL.Arg) : En := [some (.ow o), some (.t (.int 5)), some (.t x2), some (.t x3), none, some (.ow (.lst (ps.map prP))), x6, x7]
theorem cmp3 {al : En → Bool} (hal : ∀ e, al e = true) {x1 x2 : Option TreeL.Arg} : ∀ (l : List Str) (acc : List PV) (o : OS), IsBoxC o → acc.length + l.length ≤ 1000 →
    ∃ (ts : List TkT) (o' : OS), compL (gNm 4) tYesT (eTup (aCons (eVar 4) (aCons (eBin gtP (eRes (rCall 2 Lib.F_h_take [] (aCons (eVar 0) (aCons (eCon (.int 3)) aNil)))) (eCon (.int 0))) (aCons (eBin eqP (eRes (rCall 2 Lib.F_h_take [] (aCons (eVar 0) (aCons (eCon (.int 3)) aNil)))) (eCon (.int 0))) aNil)))) [4] al (l.map .str) acc [some (.ow o), x1, x2, none, none, none, none, none] =
      .ok (acc ++ ts.map t3P) [some (.ow o'), x1, x2, none, none, none, none, none] ∧ ts.map (·.1) = l ∧ IsBoxC o'
  | [], acc, o, h, _ => ⟨[], o, by simp [compL, hal], rfl, h⟩
  | s :: l, acc, o, h, hl => by
    rw [List.length_cons] at hl
    obtain ⟨k1, o1, q1, _, _, b1⟩ := take_spec (w := 3) h (by decide) (by decide)
    obtain ⟨k2, o2, q2, _, _, b2⟩ := take_spec (w := 3) b1 (by decide) (by decide)
    have g1 : gtP (.int k1) (.int 0) = some (.bl (decide (0 < k1))) := rfl
    have e2 : eqP (.int k2) (.int 0) = some (.bl (k2 == 0)) := by simp [eqP, dat, peq]
    obtain ⟨ts, o', lp, ht, hb⟩ := cmp3 hal l (acc ++ [t3P (s, decide (0 < k1), k2 == 0)]) o2 b2 (by rw [List.length_append, List.length_singleton]; omega)
    refine ⟨(s, decide (0 < k1), k2 == 0) :: ts, o', ?_, by rw [List.map_cons, ht], hb⟩
    have a1 : acc.length < 1000000 := by omega
    rw [List.append_assoc] at lp
    rw [List.map_cons, List.map_cons, show acc ++ t3P (s, decide (0 < k1), k2 == 0) :: ts.map t3P = acc ++ ([t3P (s, decide (0 < k1), k2 == 0)] ++ ts.map t3P) from rfl, ← lp]
    have t : (eTup (aCons (eVar 4) (aCons (eBin gtP (eRes (rCall 2 Lib.F_h_take [] (aCons (eVar 0) (aCons (eCon (.int 3)) aNil)))) (eCon (.int 0))) (aCons (eBin eqP (eRes (rCall 2 Lib.F_h_take [] (aCons (eVar 0) (aCons (eCon (.int 3)) aNil)))) (eCon (.int 0))) aNil)))) [some (.ow o), x1, x2, none, some (.t (.str s)), none, none, none] = .ok (.tr (t3P (s, decide (0 < k1), k2 == 0))) [some (.ow o2), x1, x2, none, some (.t (.str s)), none, none, none] := by
      simp only [t3P]
      generalize decide (0 < k1) = B1 at *
      generalize (k2 == 0) = B2 at *
      simp [-gtP, q1, q2, g1, e2]
    generalize eTup _ = E at t ⊢
    generalize t3P (s, decide (0 < k1), k2 == 0) = P at *
    generalize l.map PV.str = L
    simp [compL, hal, t, a1]
def idx (l : List Str) (s : Str) : Nat := l.findIdx fun z => z == s
theorem idx_at {l : List Str} (nd : l.Nodup) : ∀ {i : Nat} {s : Str}, l[i]? = some s → idx l s = i := by
  induction l with
  | nil => intro i s e; cases e
  | cons x l ih =>
    intro i s e
    rw [List.nodup_cons] at nd
    unfold idx
    cases i with
    | zero => cases e; simp [List.findIdx_cons]
    | succ i =>
      have hs : s ∈ l := List.mem_of_getElem? (by simpa using e)
      have ne : (x == s) = false := by simpa using fun z : x = s => nd.1 (by rw [z]; exact hs)
      have := ih nd.2 (i := i) (s := s) (by simpa using e)
      unfold idx at this
      rw [List.findIdx_cons, ne]
      simp [this]
theorem need_turn {o : OS} {l : List Str} {x3 : PV} {ps : List Pr2} {x6 x7 : Option TreeL.Arg} (h : IsBoxC o) (nd : l.Nodup) (h2 : 2 ≤ l.length) (h9 : l.length ≤ 9) (hp : ps.length ≤ 100) : ∃ (p : Pr2) (o' : OS) (y7 : Option TreeL.Arg), Lib.eb_h_some_tasks_1 (Ev8 o (.lst (l.map .str)) x3 ps x6 x7) = .nx (Ev8 o' (.lst (l.map .str)) x3 (ps ++ [p]) x6 y7) ∧ (p.1 ∈ l ∧ p.2 ∈ l ∧ idx l p.1 < idx l p.2) ∧ IsBoxC o' := by
  have len : lenF [.lst (l.map .str)] = some (.t (.int l.length)) := by show some (Arg.t (.int ((l.map PV.str).length : Int))) = _; rw [List.length_map]
  obtain ⟨a, o1, q1, a0, a1, b1⟩ := take_spec (w := (l.length : Int) - 1) h (by omega) (by omega)
  obtain ⟨i, rfl⟩ : ∃ i : Nat, a = i := ⟨a.toNat, by omega⟩
  obtain ⟨c, o2, q2, c0, c1, b2⟩ := take_spec (w := (l.length : Int) - (i : Int) - 1) b1 (by omega) (by omega)
  obtain ⟨j, rfl⟩ : ∃ j : Nat, c = j := ⟨c.toNat, by omega⟩
  have hi : i < l.length := by omega
  have hj : i + 1 + j < l.length := by omega
  have e1 : l[i]? = some l[i] := List.getElem?_eq_getElem hi
  have e2 : l[i + 1 + j]? = some l[i + 1 + j] := List.getElem?_eq_getElem hj
  have i1 : ixP (.lst (l.map .str)) (.int i) = some (.str l[i]) := by
    show atI (l.map PV.str) (i : Int) = _
    exact atI_nat (by rw [List.getElem?_map, e1]; rfl)
  have i2 : ixP (.lst (l.map .str)) (.int ((i : Int) + 1 + (j : Int))) = some (.str l[i + 1 + j]) := by
    show atI (l.map PV.str) _ = _
    rw [show (i : Int) + 1 + (j : Int) = ((i + 1 + j : Nat) : Int) by omega]
    exact atI_nat (by rw [List.getElem?_map, e2]; rfl)
  refine ⟨(l[i], l[i + 1 + j]), o2, some (.t (.int i)), ?_, ⟨List.getElem_mem hi, List.getElem_mem hj, by rw [idx_at nd e1, idx_at nd e2]; omega⟩, b2⟩
  have lp : (ps.map prP).length < 1000000 := by rw [List.length_map]; omega
  have em : (ps ++ [(l[i], l[i + 1 + j])]).map prP = ps.map prP ++ [.tup [.str l[i], .str l[i + 1 + j]]] := by rw [List.map_append]; rfl
  simp only [Ev8]
  rw [em]
  unfold Lib.eb_h_some_tasks_1
  generalize l[i] = A at *
  generalize l[i + 1 + j] = B at *
  generalize l.map PV.str = L at *
  generalize ps.map prP = P at *
  generalize (l.length : Int) = N at *
  generalize (i : Int) = I at *
  generalize (j : Int) = J at *
  simp [len, q1, i1, addA, q2, i2, eMut, isTyO, appendO, lp]
theorem needs_loop {x3 : PV} {l : List Str} (nd : l.Nodup) (h2 : 2 ≤ l.length) (h9 : l.length ≤ 9) : ∀ (us : List PV) (ps : List Pr2) (o : OS) (x6 x7 : Option TreeL.Arg), IsBoxC o → ps.length + us.length ≤ 50 → (∀ p ∈ ps, p.1 ∈ l ∧ p.2 ∈ l ∧ idx l p.1 < idx l p.2) →
    ∃ (qs : List Pr2) (o' : OS) (y6 y7 : Option TreeL.Arg), loopF (gNm 6) Lib.eb_h_some_tasks_1 (fun _ => true) us (Ev8 o (.lst (l.map .str)) x3 ps x6 x7) = .nx (Ev8 o' (.lst (l.map .str)) x3 qs y6 y7) ∧ qs.length ≤ 50 ∧ (∀ p ∈ qs, p.1 ∈ l ∧ p.2 ∈ l ∧ idx l p.1 < idx l p.2) ∧ IsBoxC o'
  | [], ps, o, x6, x7, h, hl, ok => ⟨ps, o, x6, x7, by simp [loopF], by simpa using hl, ok, h⟩
  | u :: us, ps, o, x6, x7, h, hl, ok => by
    rw [List.length_cons] at hl
    obtain ⟨p, o1, y7, e, hp, b1⟩ := need_turn (x3 := x3) (ps := ps) (x6 := some (.t u)) (x7 := x7) h nd h2 h9 (by omega)
    obtain ⟨qs, o2, z6, z7, lp, l2, ok2, b2⟩ := needs_loop (x3 := x3) nd h2 h9 us (ps ++ [p]) o1 (some (.t u)) y7 b1 (by rw [List.length_append, List.length_singleton]; omega) (fun q hq => (List.mem_append.mp hq).elim (ok q) fun z => by rw [List.mem_singleton.mp z]; exact hp)
    refine ⟨qs, o2, z6, z7, ?_, l2, ok2, b2⟩
    rw [← lp]
    generalize Lib.eb_h_some_tasks_1 = EB at *
    simp only [Ev8] at e ⊢
    generalize (ps ++ [p]).map prP = P2 at *
    generalize ps.map prP = P at *
    generalize l.map PV.str = L at *
    simp [loopF, e]
theorem some_tasks {o : OS} (h : IsBoxC o) : ∃ (ts : List TkT) (ps : List Pr2) (l : List Str) (o' : OS), Lib.F_h_some_tasks [.ow o, .t (.int 5)] = .ret (.t (.tup [.lst (ts.map t3P), .lst (ps.map prP)])) [.ow o', .t (.int 5)] ∧ (ts.map (·.1)).Perm l ∧ l.Nodup ∧ l.length ≤ 5 ∧ (∀ s ∈ l, s ∈ nine) ∧ ps.length ≤ 50 ∧ (∀ p ∈ ps, p.1 ∈ l ∧ p.2 ∈ l ∧ idx l p.1 < idx l p.2) ∧ IsBoxC o' := by
  obtain ⟨ns, o1, q1, hp, b1⟩ := mixed_perm (α := Str) PV.str (fun v => match v with | .str s => s | _ => "") (fun _ => rfl) (xs := nine) h (by decide) (fun x _ => rfl)
  obtain ⟨k, o2, q2, k0, k1, b2⟩ := take_spec (w := 6) b1 (by decide) (by decide)
  obtain ⟨j, rfl⟩ : ∃ j : Nat, k = j := ⟨k.toNat, by omega⟩
  obtain ⟨l, hl⟩ : ∃ l, l = ns.take j := ⟨_, rfl⟩
  have nns : ns.Nodup := hp.nodup_iff.mpr nine_nd
  have nd : l.Nodup := by rw [hl]; exact nns.sublist (List.take_sublist _ _)
  have l5 : l.length ≤ 5 := by rw [hl, List.length_take]; omega
  have ln : ∀ s ∈ l, s ∈ nine := fun s hs => hp.subset (List.mem_of_mem_take (by rw [← hl]; exact hs))
  have cut : cutP (ns.map PV.str) none (some (j : Int)) = l.map .str := by
    rw [cutP_map, hl]
    simp only [HT.sIx, if_neg (show ¬ ((j : Int) < 0) by omega), Int.toNat_natCast, List.drop_zero, Nat.sub_zero]
    congr 1
    by_cases c : j ≤ ns.length
    · rw [Nat.min_eq_left c]
    · rw [Nat.min_eq_right (by omega), List.take_of_length_le (Nat.le_refl _), List.take_of_length_le (by omega)]
  obtain ⟨ts, o3, c3, tn, b3⟩ := cmp3 (al := alive (.tr .non) (l.map PV.str)) (fun _ => rfl) (x1 := some (.t (.int 5))) (x2 := some (.t (.lst (l.map .str)))) l [] o2 b2 (by simp; omega)
  rw [List.nil_append] at c3
  have s1 : sAsg (eRes (rCall 2 Lib.F_h_mixed_b [] (aCons (eVar 0) (aCons (eLst (aCons (eCon (.str "pay")) (aCons (eCon (.str "hold")) (aCons (eCon (.str "book")) (aCons (eCon (.str "mail")) (aCons (eCon (.str "a")) (aCons (eCon (.str "ab")) (aCons (eCon (.str "abc")) (aCons (eCon (.str "zzzz")) (aCons (eCon (.str "made")) aNil)))))))))) aNil)))) (gNm 2) [some (.ow o), some (.t (.int 5)), none, none, none, none, none, none] = .nx [some (.ow o1), some (.t (.int 5)), some (.t (.lst (ns.map .str))), none, none, none, none, none] := by
    have q1 : Lib.F_h_mixed_b [.ow o, .t (.lst [.str "pay", .str "hold", .str "book", .str "mail", .str "a", .str "ab", .str "abc", .str "zzzz", .str "made"])] = .ret (.ow (.lst (ns.map .str))) [.ow o1, .t (.lst [.str "pay", .str "hold", .str "book", .str "mail", .str "a", .str "ab", .str "abc", .str "zzzz", .str "made"])] := q1
    generalize ns.map PV.str = L at *
    simp [q1]
  have s2 : sAsg (eRes (rSl (eVar 2) oNo (oSo (eRes (rCall 2 Lib.F_h_take [] (aCons (eVar 0) (aCons (eRes (rBin addA (eVar 1) (eCon (.int 1)))) aNil))))))) (gNm 2) [some (.ow o1), some (.t (.int 5)), some (.t (.lst (ns.map .str))), none, none, none, none, none] = .nx [some (.ow o2), some (.t (.int 5)), some (.t (.lst (l.map .str))), none, none, none, none, none] := by
    generalize ns.map PV.str = N at *
    generalize l.map PV.str = L at *
    generalize (j : Int) = J at *
    simp [addA, q2, slA, cut]
  have s3 : sAsg (eOf (fComp (iAny [0, 1] (eVar 2)) (gNm 4) tYesT (eTup (aCons (eVar 4) (aCons (eBin gtP (eRes (rCall 2 Lib.F_h_take [] (aCons (eVar 0) (aCons (eCon (.int 3)) aNil)))) (eCon (.int 0))) (aCons (eBin eqP (eRes (rCall 2 Lib.F_h_take [] (aCons (eVar 0) (aCons (eCon (.int 3)) aNil)))) (eCon (.int 0))) aNil)))) [4])) (gNm 3) [some (.ow o2), some (.t (.int 5)), some (.t (.lst (l.map .str))), none, none, none, none, none] = .nx [some (.ow o3), some (.t (.int 5)), some (.t (.lst (l.map .str))), some (.t (.lst (ts.map t3P))), none, none, none, none] := by
    generalize eTup _ = E at c3 ⊢
    generalize l.map PV.str = L at *
    generalize ts.map t3P = TT at *
    simp [c3]
  have s4 : sOwn 5 (fLst aNil) [some (.ow o3), some (.t (.int 5)), some (.t (.lst (l.map .str))), some (.t (.lst (ts.map t3P))), none, none, none, none] = .nx (Ev8 o3 (.lst (l.map .str)) (.lst (ts.map t3P)) [] none none) := by
    simp only [Ev8, List.map_nil]
    generalize l.map PV.str = L at *
    generalize ts.map t3P = TT at *
    simp
  have lf : lenF [.lst (l.map .str)] = some (.t (.int l.length)) := by show some (Arg.t (.int ((l.map PV.str).length : Int))) = _; rw [List.length_map]
  obtain ⟨ps, o4, y6, y7, s5, lps, okp, b4⟩ : ∃ (ps : List Pr2) (o4 : OS) (y6 y7 : Option TreeL.Arg), sFor (iRngA (aCons (eIf (tBl (eBin gtP (eRes (rBui lenF (aCons (eVar 2) aNil))) (eCon (.int 1)))) (eRes (rCall 2 Lib.F_h_take [] (aCons (eVar 0) (aCons (eCon (.int 4)) aNil)))) (eCon (.int 0))) aNil)) (gNm 6) Lib.eb_h_some_tasks_1 (Ev8 o3 (.lst (l.map .str)) (.lst (ts.map t3P)) [] none none) = .nx (Ev8 o4 (.lst (l.map .str)) (.lst (ts.map t3P)) ps y6 y7) ∧ ps.length ≤ 50 ∧ (∀ p ∈ ps, p.1 ∈ l ∧ p.2 ∈ l ∧ idx l p.1 < idx l p.2) ∧ IsBoxC o4 := by
    have g : gtP (.int l.length) (.int 1) = some (.bl (decide ((1 : Int) < l.length))) := rfl
    by_cases c : 2 ≤ l.length
    · rw [decide_eq_true (by omega)] at g
      obtain ⟨m, o4, q4, m0, m1, b4⟩ := take_spec (w := 4) b3 (by decide) (by decide)
      have rl : (rangeL 0 m.toNat).length ≤ 4 := by rw [rangeL_len]; omega
      obtain ⟨qs, o5, y6, y7, lp, l2, ok, b5⟩ := needs_loop (x3 := .lst (ts.map t3P)) nd c (by omega) (rangeL 0 m.toNat) [] o4 none none b4 (by simp; omega) (fun p hp => nomatch hp)
      refine ⟨qs, o5, y6, y7, ?_, l2, ok, b5⟩
      have mr : -1000000000 ≤ m ∧ m ≤ 1000000000 := by omega
      have it : iRngA (aCons (eIf (tBl (eBin gtP (eRes (rBui lenF (aCons (eVar 2) aNil))) (eCon (.int 1)))) (eRes (rCall 2 Lib.F_h_take [] (aCons (eVar 0) (aCons (eCon (.int 4)) aNil)))) (eCon (.int 0))) aNil) (Ev8 o3 (.lst (l.map .str)) (.lst (ts.map t3P)) [] none none) = .ok ⟨rangeL 0 m.toNat, .tr .non⟩ (Ev8 o4 (.lst (l.map .str)) (.lst (ts.map t3P)) [] none none) := by
        simp only [Ev8, List.map_nil]
        generalize l.map PV.str = L at *
        generalize ts.map t3P = TT at *
        generalize (l.length : Int) = N at *
        simp [-gtP, lf, g, q4, mr]
      unfold sFor
      rw [it]
      exact lp
    · rw [decide_eq_false (by omega)] at g
      refine ⟨[], o3, none, none, ?_, by simp, (fun p hp => by cases hp), b3⟩
      have it : iRngA (aCons (eIf (tBl (eBin gtP (eRes (rBui lenF (aCons (eVar 2) aNil))) (eCon (.int 1)))) (eRes (rCall 2 Lib.F_h_take [] (aCons (eVar 0) (aCons (eCon (.int 4)) aNil)))) (eCon (.int 0))) aNil) (Ev8 o3 (.lst (l.map .str)) (.lst (ts.map t3P)) [] none none) = .ok ⟨[], .tr .non⟩ (Ev8 o3 (.lst (l.map .str)) (.lst (ts.map t3P)) [] none none) := by
        simp only [Ev8, List.map_nil]
        generalize l.map PV.str = L at *
        generalize ts.map t3P = TT at *
        generalize (l.length : Int) = N at *
        simp [-gtP, lf, g, rangeL]
      unfold sFor
      rw [it]
      rfl
  have lts : ts.length < 1000 := by
    have : ts.length = l.length := by rw [← tn, List.length_map]
    omega
  obtain ⟨us, o6, q6, hp6, b6⟩ := mixed_perm (α := TkT) t3P (fun v => match v with | .tup [.str s, .bl b, .bl c] => (s, b, c) | _ => ("", false, false)) (fun _ => rfl) (xs := ts) b4 lts (fun x _ => rfl)
  refine ⟨us, ps, l, o6, ?_, by rw [← tn]; exact hp6.map _, nd, l5, ln, lps, okp, b6⟩
  unfold Lib.F_h_some_tasks
  rw [fDef_of rfl, show env0 8 [Arg.ow o, Arg.t (.int 5)] = [some (.ow o), some (.t (.int 5)), none, none, none, none, none, none] from rfl]
  unfold Lib.ev_h_some_tasks
  rw [seq_nxR s1, seq_nxR s2, seq_nxR s3, seq_nxR s4, seq_nxR s5]
  clear s1 s2 s3 s4 s5 c3
  simp only [Ev8]
  generalize ps.map prP = P at *
  generalize l.map PV.str = L at *
  generalize us.map t3P = UU at *
  generalize ts.map t3P = TT at *
  simp [q6, frz]
end Tk
end
section
namespace Lk54
open PySem PySem.Spec PyProof.Rows L2 TreeL Pw Tk
@[local simp] theorem LIM_eqtj : LIM = 1000000 := rfl
theorem told_val {env : En} {v : PV} : toldEnd env (tb__law_word (rCst (.val v)) (List.replicate 3 none)) = .ok (.t (.str "made")) env := by
  unfold tb__law_word
  simp [List.replicate, sTryT]
theorem told_exc {env : En} {w : Str} : toldEnd env (tb__law_word (rCst (.exc ⟨24, [("word", .str w)]⟩)) (List.replicate 3 none)) = .ok (.t (.str w)) env := by
  have o1 : okT [0] [0] 2 [none, some (.t (.str "made")), none] = true := rfl
  unfold tb__law_word
  simp [List.replicate, sTryT, o1]
theorem told_ok {env env' : En} {n : Nat} {js : List Nat} {B : EvR → EvS} {ev : EvE} {ns : List Int} {v : PV} (h0 : env[0]? = some (some (.ow (.scrT ns)))) (hh : hideE js env = env') (he : ev env' = .ok (.tr v) env') : rTold n js B ev env = toldEnd env (B (rCst (.val v)) (List.replicate n none)) := by
  unfold rTold
  rw [h0, hh, he]
  rfl
theorem told_ex {env env' : En} {n : Nat} {js : List Nat} {B : EvR → EvS} {ev : EvE} {ns : List Int} {y : EX} (h0 : env[0]? = some (some (.ow (.scrT ns)))) (hh : hideE js env = env') (he : ev env' = .exc y env') : rTold n js B ev env = toldEnd env (B (rCst (.exc y)) (List.replicate n none)) := by
  unfold rTold
  rw [h0, hh, he]
abbrev Lv (ns : List Int) (b : Int) (o : OS) (x3 x4 x5 x6 x7 x8 x9 x10 x11 x13 x14 x15 x16 x17 x18 : Option TreeL.Arg) : En := [some (.ow (.scrT ns)), some (.t (.int b)), some (.ow o), x3, x4, x5, x6, x7, x8, x9, x10, x11, none, x13, x14, x15, x16, x17, x18]
variable {ns : List Int} {b : Int} {o : OS} {x3 x4 x5 x6 x7 x8 x9 x10 x11 x13 x14 x15 x16 x17 x18 : Option TreeL.Arg}
theorem told_task {p q r : PV} (hp : Odd p) (hq : Odd q) (hr : Odd r) : rTold 3 [] tb__law_word (eRes (rMake 14 4 (Lib.F_Task___init__ ks) [] (aCons (eVar 5) (aCons (eVar 6) (aCons (eVar 7) aNil))))) (Lv ns b o x3 x4 (some (.t p)) (some (.t q)) (some (.t r)) x8 x9 x10 x11 x13 x14 x15 x16 x17 x18) =
    .ok (.t (.str (dueW p q r))) (Lv ns b o x3 x4 (some (.t p)) (some (.t q)) (some (.t r)) x8 x9 x10 x11 x13 x14 x15 x16 x17 x18) := by
  have i := task_init hp hq hr
  change Lib.F_Task___init__ ks _ = _ at i
  have hh : hideE [] (Lv ns b o x3 x4 (some (.t p)) (some (.t q)) (some (.t r)) x8 x9 x10 x11 x13 x14 x15 x16 x17 x18) = [none, some (.t (.int b)), none, hideA x3, hideA x4, some (.t p), some (.t q), some (.t r), hideA x8, hideA x9, hideA x10, hideA x11, none, hideA x13, hideA x14, hideA x15, hideA x16, hideA x17, hideA x18] := rfl
  generalize hideA x3 = a3 at *
  generalize hideA x4 = a4 at *
  generalize hideA x8 = a8 at *
  generalize hideA x9 = a9 at *
  generalize hideA x10 = a10 at *
  generalize hideA x11 = a11 at *
  generalize hideA x13 = a13 at *
  generalize hideA x14 = a14 at *
  generalize hideA x15 = a15 at *
  generalize hideA x16 = a16 at *
  generalize hideA x17 = a17 at *
  generalize hideA x18 = a18 at *
  by_cases c : (nmB p && (blB q && blB r)) = true
  · rw [if_pos c] at i
    have d : dueW p q r = "made" := by
      simp only [Bool.and_eq_true] at c
      unfold dueW
      rw [if_pos c.1, if_pos c.2.1, if_pos c.2.2]
    rw [d]
    refine (told_ok (v := .ins 14 (tkF p q r)) rfl hh ?_).trans told_val
    generalize tkF p q r = F at *
    simp [rMake, i]
  · rw [if_neg c] at i
    refine (told_ex (y := ⟨24, [("word", .str (dueW p q r))]⟩) rfl hh ?_).trans told_exc
    generalize dueW p q r = D at *
    simp [rMake, i]
theorem s3_ok {p q r : PV} (hp : Odd p) (hq : Odd q) (hr : Odd r) : eb_law_3 (Lv ns b o x3 x4 (some (.t p)) (some (.t q)) (some (.t r)) x8 x9 x10 x11 x13 x14 x15 x16 x17 x18) = .nx (Lv ns b o x3 x4 (some (.t p)) (some (.t q)) (some (.t r)) x8 x9 x10 x11 x13 x14 x15 x16 x17 x18) := by
  have t := told_task (ns := ns) (b := b) (o := o) (x3 := x3) (x4 := x4) (x8 := x8) (x9 := x9) (x10 := x10) (x11 := x11) (x13 := x13) (x14 := x14) (x15 := x15) (x16 := x16) (x17 := x17) (x18 := x18) hp hq hr
  have d := due_ok hp hq hr
  change Lib.F_h_task_due ks _ = _ at d
  have ne : neP (.str (dueW p q r)) (.str (dueW p q r)) = some (.bl false) := by simp [neP, dat, peq]
  unfold eb_law_3
  generalize rTold _ _ _ _ = F at t ⊢
  generalize dueW p q r = D at *
  simp [t, d, ne]
def OddL (xs : List PV) : Prop := 0 < xs.length ∧ xs.length < 1000 ∧ ∀ x ∈ xs, Odd x
theorem s4_ok {xs : List PV} (hb : IsBoxC o) (hx : OddL xs) : ∃ (o' : OS) (y5 y6 y7 : PV), eb_law_4 (Lv ns b o (some (.t (.lst xs))) x4 x5 x6 x7 x8 x9 x10 x11 x13 x14 x15 x16 x17 x18) = .nx (Lv ns b o' (some (.t (.lst xs))) x4 (some (.t y5)) (some (.t y6)) (some (.t y7)) x8 x9 x10 x11 x13 x14 x15 x16 x17 x18) ∧ IsBoxC o' := by
  obtain ⟨p, o1, q1, hp, b1⟩ := pick_spec hb hx.1 (by have := hx.2.1; omega)
  obtain ⟨q, o2, q2, hq, b2⟩ := pick_spec b1 hx.1 (by have := hx.2.1; omega)
  obtain ⟨r, o3, q3, hr, b3⟩ := pick_spec b2 hx.1 (by have := hx.2.1; omega)
  obtain ⟨k, o4, q4, _, _, b4⟩ := take_spec (w := 2) b3 (by decide) (by decide)
  have e : eqP (.int k) (.int 0) = some (.bl (k == 0)) := by simp [eqP, dat, peq]
  have s1 : eb_law_1 (Lv ns b o (some (.t (.lst xs))) x4 x5 x6 x7 x8 x9 x10 x11 x13 x14 x15 x16 x17 x18) = .nx (Lv ns b o3 (some (.t (.lst xs))) x4 (some (.t p)) (some (.t q)) (some (.t r)) x8 x9 x10 x11 x13 x14 x15 x16 x17 x18) := by
    unfold eb_law_1
    simp [q1, q2, q3]
  obtain ⟨q', hq', s2⟩ : ∃ q', Odd q' ∧ eb_law_2 (Lv ns b o3 (some (.t (.lst xs))) x4 (some (.t p)) (some (.t q)) (some (.t r)) x8 x9 x10 x11 x13 x14 x15 x16 x17 x18) = .nx (Lv ns b o4 (some (.t (.lst xs))) x4 (some (.t p)) (some (.t q')) (some (.t r)) x8 x9 x10 x11 x13 x14 x15 x16 x17 x18) := by
    cases c : (k == 0) with
    | true =>
      rw [c] at e
      refine ⟨q, hx.2.2 q hq, ?_⟩
      unfold eb_law_2
      simp [q4, e]
    | false =>
      rw [c] at e
      refine ⟨.bl true, .inl ⟨1, rfl⟩, ?_⟩
      unfold eb_law_2
      simp [q4, e]
  refine ⟨o4, p, q', r, ?_, b4⟩
  unfold eb_law_4
  rw [seq_nxR s1, seq_nxR s2]
  exact s3_ok (hx.2.2 p hp) hq' (hx.2.2 r hr)
def NoO : Option TreeL.Arg → Prop
  | some (.ow _) => False
  | _ => True
theorem s10_ok {xs : List PV} (hb : IsBoxC o) (hx : OddL xs) (n5 : NoO x5) (n6 : NoO x6) (n7 : NoO x7) : ∃ (o' : OS) (y4 y5 y6 y7 : Option TreeL.Arg), eb_law_10 (Lv ns b o (some (.t (.lst xs))) x4 x5 x6 x7 x8 x9 x10 x11 x13 x14 x15 x16 x17 x18) = .nx (Lv ns b o' (some (.t (.lst xs))) y4 y5 y6 y7 x8 x9 x10 x11 x13 x14 x15 x16 x17 x18) ∧ IsBoxC o' ∧ NoO y5 ∧ NoO y6 ∧ NoO y7 := by
  have lp : ∃ e, eb_law_10 (Lv ns b o (some (.t (.lst xs))) x4 x5 x6 x7 x8 x9 x10 x11 x13 x14 x15 x16 x17 x18) = .nx e ∧ ∃ (o' : OS) (y4 y5 y6 y7 : Option TreeL.Arg), e = Lv ns b o' (some (.t (.lst xs))) y4 y5 y6 y7 x8 x9 x10 x11 x13 x14 x15 x16 x17 x18 ∧ IsBoxC o' ∧ NoO y5 ∧ NoO y6 ∧ NoO y7 := by
    unfold eb_law_10
    refine sat_nx ?_
    have z : iRngA (aCons (eCon (.int 8)) aNil) (Lv ns b o (some (.t (.lst xs))) x4 x5 x6 x7 x8 x9 x10 x11 x13 x14 x15 x16 x17 x18) = .ok ⟨rangeL 0 8, .tr .non⟩ (Lv ns b o (some (.t (.lst xs))) x4 x5 x6 x7 x8 x9 x10 x11 x13 x14 x15 x16 x17 x18) := by simp
    simp only [sFor, z, RE.so]
    refine loopF_sat (fun _ e => ∃ (o' : OS) (y4 y5 y6 y7 : Option TreeL.Arg), e = Lv ns b o' (some (.t (.lst xs))) y4 y5 y6 y7 x8 x9 x10 x11 x13 x14 x15 x16 x17 x18 ∧ IsBoxC o' ∧ NoO y5 ∧ NoO y6 ∧ NoO y7) (fun _ _ _ => rfl) (fun _ h => h) ?_ _ _ ⟨o, x4, x5, x6, x7, rfl, hb, n5, n6, n7⟩
    rintro u ts env ⟨o', y4, y5, y6, y7, rfl, hb', _⟩
    refine ⟨_, rfl, ?_⟩
    obtain ⟨o2, z5, z6, z7, e1, b1⟩ := s4_ok (ns := ns) (b := b) (x4 := some (.t u)) (x5 := y5) (x6 := y6) (x7 := y7) (x8 := x8) (x9 := x9) (x10 := x10) (x11 := x11) (x13 := x13) (x14 := x14) (x15 := x15) (x16 := x16) (x17 := x17) (x18 := x18) hb' hx
    simp only [Lv, List.set_cons_succ, List.set_cons_zero] at e1 ⊢
    simp only [e1, SO.Sat]
    exact ⟨o2, _, _, _, _, rfl, b1, trivial, trivial, trivial⟩
  obtain ⟨e, h, o', y4, y5, y6, y7, rfl, hb'⟩ := lp
  exact ⟨o', y4, y5, y6, y7, h, hb'⟩
end Lk54
end
section
namespace Lk54
open PySem PySem.Spec PyProof.Rows L2 TreeL Pw Tk
@[local simp] theorem LIM_eqtk : LIM = 1000000 := rfl
variable {ns : List Int} {b : Int} {o : OS} {x3 x4 x5 x6 x7 x8 x9 x10 x11 x13 x14 x15 x16 x17 x18 : Option TreeL.Arg}
abbrev L0 (ns : List Int) (b : Int) (x2 x3 x4 x5 x6 x7 x8 x9 x10 x11 x13 x14 x15 x16 x17 x18 : Option TreeL.Arg) : En := [some (.ow (.scrT ns)), some (.t (.int b)), x2, x3, x4, x5, x6, x7, x8, x9, x10, x11, none, x13, x14, x15, x16, x17, x18]
theorem s7_ok {x2 : Option TreeL.Arg} (hb : 0 ≤ b ∧ b < 1000) : ∃ o, eb_law_7 (L0 ns b x2 x3 x4 x5 x6 x7 x8 x9 x10 x11 x13 x14 x15 x16 x17 x18) = .nx (Lv ns b o x3 x4 x5 x6 x7 x8 x9 x10 x11 x13 x14 x15 x16 x17 x18) ∧ IsBoxC o := by
  obtain ⟨o, q, h⟩ := feed_spec ns hb
  refine ⟨o, ?_, h⟩
  unfold eb_law_7
  simp [q]
def odd1 : List PV := [.str "", .str "abcde", .str "A", .str "a1", .str "none", .str "work", .str "any", .str "pay", .str "a", .non, .int 0, .int 1, .bl true, .bl false]
def odd2 : List PV := [.lst [.str "a"], .tup [.str "a"], .ins 15 (tsF (.tup []) (.tup []))]
theorem odd_ok : OddL (odd1 ++ odd2) := by
  refine ⟨by decide, by decide, fun x hx => ?_⟩
  simp only [odd1, odd2, List.cons_append, List.nil_append, List.mem_cons, List.mem_nil_iff, or_false] at hx
  rcases hx with rfl | rfl | rfl | rfl | rfl | rfl | rfl | rfl | rfl | rfl | rfl | rfl | rfl | rfl | rfl | rfl | rfl
  all_goals first | exact .inl ⟨5, rfl⟩ | exact .inr ⟨_, rfl⟩
theorem s8_ok : eb_law_8 (Lv ns b o x3 x4 x5 x6 x7 x8 x9 x10 x11 x13 x14 x15 x16 x17 x18) = .nx (Lv ns b o (some (.t (.lst odd1))) x4 x5 x6 x7 x8 x9 x10 x11 x13 x14 x15 x16 x17 x18) := by
  unfold eb_law_8 odd1
  simp
theorem no_lead {a b : Str} (l : Lead [] a b) : False := Nat.lt_irrefl 0 (no_ring (ps := []) (f := fun _ => 0) (fun p hp => absurd hp (by simp)) l)
theorem tasks_nil : Lib.F_Tasks___init__ ks [.ow (.ins 15 []), .t (.lst []), .t (.tup [])] = .ret (.t .non) [.ow (.ins 15 (tsF (.tup []) (.tup []))), .t (.lst []), .t (.tup [])] :=
  (tasks_end (v := .lst []) (u := .tup []) (ts := []) (ps := []) (.inl rfl) (by decide) List.nodup_nil (.inr rfl) (by decide) (fun p hp => absurd hp (by simp)) (fun p hp => absurd hp (by simp))).2 fun ⟨_, l⟩ => no_lead l
theorem s9_ok : eb_law_9 (Lv ns b o (some (.t (.lst odd1))) x4 x5 x6 x7 x8 x9 x10 x11 x13 x14 x15 x16 x17 x18) = .nx (Lv ns b o (some (.t (.lst (odd1 ++ odd2)))) x4 x5 x6 x7 x8 x9 x10 x11 x13 x14 x15 x16 x17 x18) := by
  have i := tasks_nil
  change Lib.F_Tasks___init__ ks _ = _ at i
  have l1 : odd1.length + 3 ≤ 1000000 := by decide
  unfold eb_law_9 odd2
  generalize odd1 = O at *
  generalize tsF (.tup []) (.tup []) = T at *
  simp [rMake, i, addA, l1]
structure Drawn (ts : List TkT) (ps : List Pr2) : Prop where
  nd : (nmL ts).Nodup
  len : ts.length ≤ 5
  nin : ∀ s ∈ nmL ts, s ∈ nine
  lp : ps.length ≤ 50
  inn : ∀ p ∈ ps, p.1 ∈ nmL ts ∧ p.2 ∈ nmL ts
  go : ∃ f : Str → Nat, ∀ p ∈ ps, f p.1 < f p.2
theorem s11_ok (hb : IsBoxC o) : ∃ (ts : List TkT) (ps : List Pr2) (o' : OS), eb_law_11 (Lv ns b o x3 x4 x5 x6 x7 x8 x9 x10 x11 x13 x14 x15 x16 x17 x18) = .nx (Lv ns b o' x3 x4 x5 x6 x7 (some (.t (.lst (ts.map t3P)))) (some (.t (.lst (ps.map prP)))) x10 x11 x13 x14 x15 x16 x17 x18) ∧ IsBoxC o' ∧ Drawn ts ps := by
  obtain ⟨ts, ps, l, o', q, hp, nd, l5, hn, lp, ho, b1⟩ := some_tasks hb
  refine ⟨ts, ps, o', ?_, b1, ⟨hp.nodup_iff.mpr nd, by have := hp.length_eq; rw [List.length_map] at this; omega, fun s hs => hn s (hp.subset hs), lp, fun p hq => ⟨hp.symm.subset (ho p hq).1, hp.symm.subset (ho p hq).2.1⟩, idx l, fun p hq => (ho p hq).2.2⟩⟩
  unfold eb_law_11
  generalize ts.map t3P = A at *
  generalize ps.map prP = P at *
  simp [q]
end Lk54
end
section
namespace Lk54
open PySem PySem.Spec PyProof.Rows L2 TreeL Pw Tk
@[local simp] theorem LIM_eqtl : LIM = 1000000 := rfl
variable {ns : List Int} {b : Int} {o : OS} {x3 x4 x5 x6 x7 x8 x9 x10 x11 x13 x14 x15 x16 x17 x18 : Option TreeL.Arg}
theorem nine_nm : ∀ s ∈ nine, nmB (.str s) = true ∧ goodS s = true ∧ s ≠ "x" ∧ s ≠ "y" := by
  intro s hs
  simp only [nine, List.mem_cons, List.mem_nil_iff, or_false] at hs
  rcases hs with rfl | rfl | rfl | rfl | rfl | rfl | rfl | rfl | rfl <;> exact ⟨by decide +kernel, by decide +kernel, by decide +kernel, by decide +kernel⟩
theorem init_ok {s : Str} (h : nmB (.str s) = true) (p q : Bool) : Lib.F_Task___init__ ks [.ow (.ins 14 []), .t (.str s), .t (.bl p), .t (.bl q)] = .ret (.t .non) [.ow (.ins 14 (tkF (.str s) (.bl p) (.bl q))), .t (.str s), .t (.bl p), .t (.bl q)] := by
  have i := task_init (a := .str s) (b := .bl p) (c := .bl q) (.inl ⟨1, rfl⟩) (.inl ⟨1, rfl⟩) (.inl ⟨1, rfl⟩)
  rw [if_pos (by rw [h]; rfl)] at i
  exact i
abbrev Ea : EvE := eRes (rMake 14 4 (Lib.F_Task___init__ ks) [] (aCons (eVar 5) (aCons (eVar 6) (aCons (eVar 7) aNil))))
abbrev g3 : Tg := gTpL 3 (gsCons (gNm 5) (gsCons (gNm 6) (gsCons (gNm 7) gsNil)))
theorem comp12 {L8 : PV} : ∀ (ts : List TkT) (acc : List PV), acc.length + ts.length ≤ 1000000 → (∀ t ∈ ts, nmB (.str t.1) = true) →
    compL g3 tYesT Ea [5, 6, 7] (fun _ => true) (ts.map t3P) acc (Lv ns b o x3 x4 none none none (some (.t L8)) x9 x10 x11 x13 x14 x15 x16 x17 x18) =
    .ok (acc ++ ts.map tkV) (Lv ns b o x3 x4 none none none (some (.t L8)) x9 x10 x11 x13 x14 x15 x16 x17 x18)
  | [], acc, _, _ => by simp [compL]
  | t :: ts, acc, hl, hn => by
    rw [List.length_cons] at hl
    have ih := comp12 (L8 := L8) ts (acc ++ [tkV t]) (by rw [List.length_append, List.length_singleton]; omega) fun u hu => hn u (List.mem_cons_of_mem _ hu)
    rw [List.append_assoc] at ih
    have i := init_ok (hn t List.mem_cons_self) t.2.1 t.2.2
    change Lib.F_Task___init__ ks _ = _ at i
    have a1 : acc.length < 1000000 := by omega
    have e : Ea (Lv ns b o x3 x4 (some (.t (.str t.1))) (some (.t (.bl t.2.1))) (some (.t (.bl t.2.2))) (some (.t L8)) x9 x10 x11 x13 x14 x15 x16 x17 x18) = .ok (.tr (tkV t)) (Lv ns b o x3 x4 (some (.t (.str t.1))) (some (.t (.bl t.2.1))) (some (.t (.bl t.2.2))) (some (.t L8)) x9 x10 x11 x13 x14 x15 x16 x17 x18) := by
      unfold tkV
      generalize tkF (.str t.1) (.bl t.2.1) (.bl t.2.2) = F at *
      simp [rMake, i]
    have g : g3 (t3P t) (Lv ns b o x3 x4 none none none (some (.t L8)) x9 x10 x11 x13 x14 x15 x16 x17 x18) = some (Lv ns b o x3 x4 (some (.t (.str t.1))) (some (.t (.bl t.2.1))) (some (.t (.bl t.2.2))) (some (.t L8)) x9 x10 x11 x13 x14 x15 x16 x17 x18) := rfl
    rw [List.map_cons, List.map_cons, show acc ++ tkV t :: ts.map tkV = acc ++ ([tkV t] ++ ts.map tkV) from rfl, ← ih]
    generalize Ea = E at *
    generalize g3 = G at *
    generalize tkV t = V at *
    generalize t3P t = P at *
    generalize ts.map t3P = M at *
    simp [compL, g, e, a1]
abbrev xyT : List TkT := [(("x" : Str), true, false), (("y" : Str), false, false)]
abbrev goodT (ts : List TkT) : List TkT := ts ++ xyT
theorem s12_ok {ts : List TkT} (h5 : ts.length ≤ 5) (hn : ∀ t ∈ ts, nmB (.str t.1) = true) (n5 : NoO x5) (n6 : NoO x6) (n7 : NoO x7) : eb_law_12 (Lv ns b o x3 x4 x5 x6 x7 (some (.t (.lst (ts.map t3P)))) x9 x10 x11 x13 x14 x15 x16 x17 x18) = .nx (Lv ns b o x3 x4 x5 x6 x7 (some (.t (.lst (ts.map t3P)))) x9 (some (.t (.lst ((goodT ts).map tkV)))) x11 x13 x14 x15 x16 x17 x18) := by
  have ix := init_ok (s := "x") (by decide +kernel) true false
  have iy := init_ok (s := "y") (by decide +kernel) false false
  change Lib.F_Task___init__ ks _ = _ at ix iy
  have c := comp12 (ns := ns) (b := b) (o := o) (x3 := x3) (x4 := x4) (x9 := x9) (x10 := x10) (x11 := x11) (x13 := x13) (x14 := x14) (x15 := x15) (x16 := x16) (x17 := x17) (x18 := x18) (L8 := .lst (ts.map t3P)) ts [] (by rw [List.length_nil]; omega) hn
  have no : noOwn (Lv ns b o x3 x4 x5 x6 x7 (some (.t (.lst (ts.map t3P)))) x9 x10 x11 x13 x14 x15 x16 x17 x18) [5, 6, 7] = true := by
    rcases x5 with _ | _ | _ <;> first | exact n5.elim | skip
    all_goals rcases x6 with _ | _ | _ <;> first | exact n6.elim | skip
    all_goals rcases x7 with _ | _ | _ <;> first | exact n7.elim | rfl
  have we : wipeE (Lv ns b o x3 x4 x5 x6 x7 (some (.t (.lst (ts.map t3P)))) x9 x10 x11 x13 x14 x15 x16 x17 x18) [5, 6, 7] = Lv ns b o x3 x4 none none none (some (.t (.lst (ts.map t3P)))) x9 x10 x11 x13 x14 x15 x16 x17 x18 := rfl
  have un : unW (Lv ns b o x3 x4 x5 x6 x7 (some (.t (.lst (ts.map t3P)))) x9 x10 x11 x13 x14 x15 x16 x17 x18) (Lv ns b o x3 x4 none none none (some (.t (.lst (ts.map t3P)))) x9 x10 x11 x13 x14 x15 x16 x17 x18) [5, 6, 7] = Lv ns b o x3 x4 x5 x6 x7 (some (.t (.lst (ts.map t3P)))) x9 x10 x11 x13 x14 x15 x16 x17 x18 := rfl
  have ei : iAny [] (eVar 8) (Lv ns b o x3 x4 x5 x6 x7 (some (.t (.lst (ts.map t3P)))) x9 x10 x11 x13 x14 x15 x16 x17 x18) = .ok ⟨ts.map t3P, .tr .non⟩ (Lv ns b o x3 x4 x5 x6 x7 (some (.t (.lst (ts.map t3P)))) x9 x10 x11 x13 x14 x15 x16 x17 x18) := by
    generalize ts.map t3P = A
    simp
  have e : eOf (fComp (iAny [] (eVar 8)) g3 tYesT Ea [5, 6, 7]) (Lv ns b o x3 x4 x5 x6 x7 (some (.t (.lst (ts.map t3P)))) x9 x10 x11 x13 x14 x15 x16 x17 x18) = .ok (.tr (.lst (ts.map tkV))) (Lv ns b o x3 x4 x5 x6 x7 (some (.t (.lst (ts.map t3P)))) x9 x10 x11 x13 x14 x15 x16 x17 x18) := by
    have al : alive (Vl.tr .non) (ts.map t3P) = fun _ => true := rfl
    unfold eOf fComp
    rw [ei]
    simp only [RE.bind, no, if_true, we, al, c, un, OS.tree, List.nil_append]
  have l2 : (ts.map tkV).length + 2 ≤ 1000000 := by rw [List.length_map]; omega
  have sp : (goodT ts).map tkV = ts.map tkV ++ [.ins 14 (tkF (.str "x") (.bl true) (.bl false)), .ins 14 (tkF (.str "y") (.bl false) (.bl false))] := by rw [List.map_append]; rfl
  rw [sp]
  clear sp no we un c ei
  unfold eb_law_12
  generalize eOf (fComp _ _ _ _ _) = E at *
  generalize tkF (.str "x") (.bl true) (.bl false) = T1 at *
  generalize tkF (.str "y") (.bl false) (.bl false) = T2 at *
  generalize ts.map tkV = A at *
  generalize ts.map t3P = B at *
  simp [rMake, e, ix, iy, addA, l2]
theorem s13_ok {ts : List TkT} (h5 : ts.length ≤ 100) : eb_law_13 (Lv ns b o x3 x4 x5 x6 x7 x8 x9 (some (.t (.lst (ts.map tkV)))) x11 x13 x14 x15 x16 x17 x18) = .nx (Lv ns b o x3 x4 x5 x6 x7 x8 x9 (some (.t (.lst (ts.map tkV)))) (some (.t (.lst ((nmL ts).map .str)))) x13 x14 x15 x16 x17 x18) := by
  have c := comp_m (ei := iAny [] (eVar 10)) (ea := eFl [2, 14] ks "name" (eVar 12)) (env := Lv ns b o x3 x4 x5 x6 x7 x8 x9 (some (.t (.lst (ts.map tkV)))) x11 x13 x14 x15 x16 x17 x18) (j := 12) (a := .tr .non) (xs := ts) tkV (fun t => .str t.1) (by
    generalize ts.map tkV = R
    simp) rfl rfl (by omega) (fun t _ => rfl)
  rw [show ts.map (fun t => PV.str t.1) = (nmL ts).map .str from by rw [List.map_map]; rfl] at c
  unfold eb_law_13
  generalize eOf (fComp _ _ _ _ _) = E at *
  generalize (nmL ts).map PV.str = N at *
  generalize ts.map tkV = R at *
  simp [c]
end Lk54
end
section
namespace Lk54
open PySem PySem.Spec PyProof.Rows L2 TreeL Pw Tk
@[local simp] theorem LIM_eqtm : LIM = 1000000 := rfl
variable {ns : List Int} {b : Int} {o : OS} {x3 x4 x5 x6 x7 x8 x9 x10 x11 x13 x14 x15 x16 x17 x18 : Option TreeL.Arg} {G P N : List PV} {ts : List TkT} {ps : List Pr2}
abbrev mkT (a1 a2 : EvE) : EvE := eRes (rMake 15 3 (Lib.F_Tasks___init__ ks) [] (aCons a1 (aCons a2 aNil)))
theorem mk_x {a1 a2 : EvE} {e : En} {v u : PV} {w : Str} (h1 : a1 e = .ok (.tr v) e) (h2 : a2 e = .ok (.tr u) e) (i : Lib.F_Tasks___init__ ks [.ow (.ins 15 []), .t v, .t u] = exT w v u) : mkT a1 a2 e = .exc ⟨24, [("word", .str w)]⟩ e := by
  simp only [exT] at i
  simp [rMake, h1, h2, i]
theorem mk_v {a1 a2 : EvE} {e : En} {v u : PV} {fs : List (Str × PV)} (h1 : a1 e = .ok (.tr v) e) (h2 : a2 e = .ok (.tr u) e) (i : Lib.F_Tasks___init__ ks [.ow (.ins 15 []), .t v, .t u] = .ret (.t .non) [.ow (.ins 15 fs), .t v, .t u]) : mkT a1 a2 e = .ok (.tr (.ins 15 fs)) e := by
  simp [rMake, h1, h2, i]
theorem told_mk_x {a1 a2 : EvE} {env : En} {v u : PV} {w : Str} (h0 : env[0]? = some (some (.ow (.scrT ns)))) (h1 : a1 (hideE [] env) = .ok (.tr v) (hideE [] env)) (h2 : a2 (hideE [] env) = .ok (.tr u) (hideE [] env)) (i : Lib.F_Tasks___init__ ks [.ow (.ins 15 []), .t v, .t u] = exT w v u) :
    rTold 3 [] tb__law_word (mkT a1 a2) env = .ok (.t (.str w)) env := (told_ex h0 rfl (mk_x h1 h2 i)).trans told_exc
theorem told_mk_v {a1 a2 : EvE} {env : En} {v u : PV} {fs : List (Str × PV)} (h0 : env[0]? = some (some (.ow (.scrT ns)))) (h1 : a1 (hideE [] env) = .ok (.tr v) (hideE [] env)) (h2 : a2 (hideE [] env) = .ok (.tr u) (hideE [] env)) (i : Lib.F_Tasks___init__ ks [.ow (.ins 15 []), .t v, .t u] = .ret (.t .non) [.ow (.ins 15 fs), .t v, .t u]) :
    rTold 3 [] tb__law_word (mkT a1 a2) env = .ok (.t (.str "made")) env := (told_ok h0 rfl (mk_v h1 h2 i)).trans told_val
theorem ask_ok {r : EvR} {w : Str} {env : En} (h : r env = .ok (.t (.str w)) env) : (sIf (tBl (eBin neP (eRes r) (eCon (.str w)))) (sRet [] (eCon (.bl false))) sSkip) env = .nx env := by
  have ne : neP (.str w) (.str w) = some (.bl false) := by simp [neP, dat, peq]
  simp [h, ne]
theorem nm_good : nmL (goodT ts) = nmL ts ++ ([("x" : Str), ("y" : Str)] : List Str) := by
  show (ts ++ xyT).map (·.1) = _
  rw [List.map_append]; rfl
theorem Drawn.gnd (d : Drawn ts ps) : (nmL (goodT ts)).Nodup := by
  rw [nm_good]
  refine List.nodup_append.mpr ⟨d.nd, by decide +kernel, fun a ha c hc => ?_⟩
  obtain ⟨_, _, nx, ny⟩ := nine_nm a (d.nin a ha)
  simp only [List.mem_cons, List.mem_nil_iff, or_false] at hc
  rcases hc with rfl | rfl
  · exact nx
  · exact ny
theorem Drawn.glen (d : Drawn ts ps) : (goodT ts).length ≤ 7 := by
  rw [List.length_append, show xyT.length = 2 from rfl]
  have := d.len
  omega
theorem Drawn.gnm (d : Drawn ts ps) : ∀ s ∈ nmL (goodT ts), nmB (.str s) = true ∧ goodS s = true := by
  intro s hs
  rw [nm_good] at hs
  rcases List.mem_append.mp hs with h | h
  · exact ⟨(nine_nm s (d.nin s h)).1, (nine_nm s (d.nin s h)).2.1⟩
  · simp only [List.mem_cons, List.mem_nil_iff, or_false] at h
    rcases h with rfl | rfl <;> exact ⟨by decide +kernel, by decide +kernel⟩
theorem Drawn.gin (d : Drawn ts ps) : ∀ p ∈ ps, p.1 ∈ nmL (goodT ts) ∧ p.2 ∈ nmL (goodT ts) := fun p hp => by
  rw [nm_good]
  exact ⟨List.mem_append_left _ (d.inn p hp).1, List.mem_append_left _ (d.inn p hp).2⟩
theorem good_of {qs : List Pr2} (d : Drawn ts ps) (h : ∀ p ∈ qs, p.1 ∈ nmL (goodT ts) ∧ p.2 ∈ nmL (goodT ts)) : GoodP qs := fun p hp => ⟨(d.gnm _ (h p hp).1).2, (d.gnm _ (h p hp).2).2⟩
theorem made_of {v u : PV} {qs : List Pr2} (d : Drawn ts ps) (hv : SeqV v ((goodT ts).map tkV)) (hu : SeqV u (qs.map prP)) (lq : qs.length ≤ 1000) (hq : ∀ p ∈ qs, p ∈ ps) : Lib.F_Tasks___init__ ks [.ow (.ins 15 []), .t v, .t u] = .ret (.t .non) [.ow (.ins 15 (tsF (.tup ((goodT ts).map tkV)) (.tup (qs.map prP)))), .t v, .t u] := by
  have hN : ∀ p ∈ qs, p.1 ∈ nmL (goodT ts) ∧ p.2 ∈ nmL (goodT ts) := fun p hp => d.gin p (hq p hp)
  refine (tasks_end hv (by have := d.glen; omega) d.gnd hu lq hN (good_of d hN)).2 ?_
  rintro ⟨a, l⟩
  obtain ⟨f, hf⟩ := d.go
  exact Nat.lt_irrefl _ (no_ring (f := f) (fun p hp => hf p (hq p hp)) l)
abbrev Lg (ns : List Int) (b : Int) (o : OS) (x3 x4 x5 x6 x7 x8 : Option TreeL.Arg) (P G N : List PV) (x13 x14 x15 x16 x17 x18 : Option TreeL.Arg) : En := Lv ns b o x3 x4 x5 x6 x7 x8 (some (.t (.lst P))) (some (.t (.lst G))) (some (.t (.lst N))) x13 x14 x15 x16 x17 x18
theorem s14_ok (d : Drawn ts ps) : eb_law_14 (Lg ns b o x3 x4 x5 x6 x7 x8 (ps.map prP) ((goodT ts).map tkV) N x13 x14 x15 x16 x17 x18) = .nx (Lg ns b o x3 x4 x5 x6 x7 x8 (ps.map prP) ((goodT ts).map tkV) N x13 x14 x15 x16 x17 x18) := by
  have m := made_of (v := .lst ((goodT ts).map tkV)) (u := .lst (ps.map prP)) (qs := ps) d (.inl rfl) (.inl rfl) (by have := d.lp; omega) (fun _ h => h)
  unfold eb_law_14
  generalize tsF _ _ = F at m
  generalize (goodT ts).map tkV = G at *
  generalize ps.map prP = P at *
  exact ask_ok (told_mk_v rfl rfl rfl m)
theorem s15_ok (d : Drawn ts ps) : eb_law_15 (Lg ns b o x3 x4 x5 x6 x7 x8 (ps.map prP) ((goodT ts).map tkV) N x13 x14 x15 x16 x17 x18) = .nx (Lg ns b o x3 x4 x5 x6 x7 x8 (ps.map prP) ((goodT ts).map tkV) N x13 x14 x15 x16 x17 x18) := by
  have m := made_of (v := .tup ((goodT ts).map tkV)) (u := .tup (ps.map prP)) (qs := ps) d (.inr rfl) (.inr rfl) (by have := d.lp; omega) (fun _ h => h)
  unfold eb_law_15
  generalize tsF _ _ = F at m
  generalize (goodT ts).map tkV = G at *
  generalize ps.map prP = P at *
  exact ask_ok (told_mk_v rfl rfl rfl m)
theorem s24_ok (d : Drawn ts ps) : eb_law_24 (Lg ns b o x3 x4 x5 x6 x7 x8 (ps.map prP) ((goodT ts).map tkV) N x13 x14 x15 x16 x17 x18) = .nx (Lg ns b o x3 x4 x5 x6 x7 x8 (ps.map prP) ((goodT ts).map tkV) N x13 x14 x15 x16 x17 x18) := by
  have l1 := d.lp
  have m := made_of (v := .lst ((goodT ts).map tkV)) (u := .lst ((ps ++ ps).map prP)) (qs := ps ++ ps) d (.inl rfl) (.inl rfl) (by rw [List.length_append]; omega) (fun _ h => (List.mem_append.mp h).elim id id)
  have l2 : (ps.map prP).length + (ps.map prP).length ≤ 1000000 := by rw [List.length_map]; omega
  have em : (ps ++ ps).map prP = ps.map prP ++ ps.map prP := List.map_append ..
  rw [em] at m
  clear em d l1
  generalize tsF _ _ = F at m
  generalize (goodT ts).map tkV = G at *
  generalize ps.map prP = P at *
  have z : (eRes (rBin addA (eVar 9) (eVar 9))) (hideE [] (Lg ns b o x3 x4 x5 x6 x7 x8 P G N x13 x14 x15 x16 x17 x18)) = .ok (.tr (.lst (P ++ P))) (hideE [] (Lg ns b o x3 x4 x5 x6 x7 x8 P G N x13 x14 x15 x16 x17 x18)) := by
    have lk : eVar 9 (hideE [] (Lg ns b o x3 x4 x5 x6 x7 x8 P G N x13 x14 x15 x16 x17 x18)) = .ok (.tr (.lst P)) (hideE [] (Lg ns b o x3 x4 x5 x6 x7 x8 P G N x13 x14 x15 x16 x17 x18)) := rfl
    generalize hideE [] _ = E at *
    simp [-eVar, lk, addA, l2]
  unfold eb_law_24
  exact ask_ok (told_mk_v rfl rfl z m)
theorem loop_nm {body : EvS} {j : Nat} {env : En} : ∀ (us : List PV) (y : Option TreeL.Arg), (∀ u ∈ us, body (env.set j (some (.t u))) = .nx (env.set j (some (.t u)))) → ∃ z, loopF (gNm j) body (fun _ => true) us (env.set j y) = .nx (env.set j z)
  | [], y, _ => ⟨y, rfl⟩
  | u :: us, y, h => by
    obtain ⟨z, e⟩ := loop_nm us (some (.t u)) fun w hw => h w (List.mem_cons_of_mem _ hw)
    refine ⟨z, ?_⟩
    rw [← e]
    have t := h u List.mem_cons_self
    simp [loopF, t]
theorem bad_tasks (d : Drawn ts ps) : ∀ u ∈ ([.non, .int 0, .str "x", .lst ((goodT ts).map tkV ++ [.non]), .lst ((goodT ts).map tkV ++ [.str "x"]), .lst [.lst ((goodT ts).map tkV)], .ins 14 (tkF (.str "x") (.bl true) (.bl false))] : List PV), Lib.F_Tasks___init__ ks [.ow (.ins 15 []), .t u, .t .non] = exT "tasks" u .non := by
  have g := (tk_all (goodT ts)).1
  have l := d.glen
  have ex : ∀ x : PV, isiF (tbY [.ins 14]) ks x = some false → istk x = false → Lib.F_Tasks___init__ ks [.ow (.ins 15 []), .t (.lst ((goodT ts).map tkV ++ [x])), .t .non] = exT "tasks" (.lst ((goodT ts).map tkV ++ [x])) .non := fun x h1 h2 => by
    refine not_task (.inl rfl) (by rw [List.length_append, List.length_map, List.length_singleton]; omega) (fun y hy => ?_) (by rw [List.all_append, List.all_cons, h2, Bool.false_and, Bool.and_false])
    rcases List.mem_append.mp hy with hy | hy
    · exact g y hy
    · rw [List.mem_singleton.mp hy, h1, h2]
  have e1 := ex .non rfl rfl
  have e2 := ex (.str "x") rfl rfl
  clear ex g l d
  generalize (goodT ts).map tkV = G at *
  intro u hu
  simp only [List.mem_cons, List.mem_nil_iff, or_false] at hu
  rcases hu with rfl | rfl | rfl | rfl | rfl | rfl | rfl
  · exact no_seq rfl
  · exact no_seq rfl
  · exact no_seq rfl
  · exact e1
  · exact e2
  · exact not_task (xs := [.lst G]) (.inl rfl) (by show 1 ≤ 1000; decide) (fun y hy => by rw [List.mem_singleton.mp hy]; rfl) rfl
  · exact no_seq rfl
theorem s5_ok {u : PV} (h : Lib.F_Tasks___init__ ks [.ow (.ins 15 []), .t u, .t .non] = exT "tasks" u .non) : eb_law_5 (Lg ns b o x3 x4 x5 x6 x7 x8 P G N (some (.t u)) x14 x15 x16 x17 x18) = .nx (Lg ns b o x3 x4 x5 x6 x7 x8 P G N (some (.t u)) x14 x15 x16 x17 x18) := by
  unfold eb_law_5
  exact ask_ok (told_mk_x rfl rfl rfl h)
theorem s16_ok (d : Drawn ts ps) : ∃ y, eb_law_16 (Lg ns b o x3 x4 x5 x6 x7 x8 P ((goodT ts).map tkV) N x13 x14 x15 x16 x17 x18) = .nx (Lg ns b o x3 x4 x5 x6 x7 x8 P ((goodT ts).map tkV) N y x14 x15 x16 x17 x18) := by
  have g := bad_tasks d
  have l := d.glen
  have ix := init_ok (s := "x") (by decide +kernel) true false
  change Lib.F_Task___init__ ks _ = _ at ix
  have l1 : ((goodT ts).map tkV).length + 1 ≤ 1000000 := by rw [List.length_map]; omega
  generalize tkF (.str "x") (.bl true) (.bl false) = T at *
  generalize (goodT ts).map tkV = G at *
  obtain ⟨y, h⟩ := loop_nm (body := eb_law_5) (j := 13) (env := Lg ns b o x3 x4 x5 x6 x7 x8 P G N x13 x14 x15 x16 x17 x18) [.non, .int 0, .str "x", .lst (G ++ [.non]), .lst (G ++ [.str "x"]), .lst [.lst G], .ins 14 T] x13 fun u hu => s5_ok (g u hu)
  refine ⟨y, ?_⟩
  have z : iAny [] (eTup (aCons (eCon .non) (aCons (eCon (.int 0)) (aCons (eCon (.str "x")) (aCons (eRes (rBin addA (eVar 10) (eLst (aCons (eCon .non) aNil)))) (aCons (eRes (rBin addA (eVar 10) (eLst (aCons (eCon (.str "x")) aNil)))) (aCons (eLst (aCons (eVar 10) aNil)) (aCons (eRes (rMake 14 4 (Lib.F_Task___init__ ks) [.bl true, .bl false] (aCons (eCon (.str "x")) aNil))) aNil)))))))) (Lg ns b o x3 x4 x5 x6 x7 x8 P G N x13 x14 x15 x16 x17 x18) = .ok ⟨[.non, .int 0, .str "x", .lst (G ++ [.non]), .lst (G ++ [.str "x"]), .lst [.lst G], .ins 14 T], .tr .non⟩ (Lg ns b o x3 x4 x5 x6 x7 x8 P G N x13 x14 x15 x16 x17 x18) := by
    simp [rMake, ix, addA, l1]
  unfold eb_law_16
  simp only [sFor, z, RE.so]
  exact h
end Lk54
end
section
namespace Lk54
open PySem PySem.Spec PyProof.Rows L2 TreeL Pw Tk
@[local simp] theorem LIM_eqtn : LIM = 1000000 := rfl
variable {ns : List Int} {b : Int} {o : OS} {x3 x4 x5 x6 x7 x8 x9 x10 x11 x13 x14 x15 x16 x17 x18 : Option TreeL.Arg} {G P N : List PV} {ts : List TkT} {ps : List Pr2}
theorem s17_ok (hb : IsBoxC o) (h0 : 0 < G.length) (h1 : G.length ≤ 1000) : ∃ (k : Nat) (o' : OS), k < G.length ∧ IsBoxC o' ∧ eb_law_17 (Lg ns b o x3 x4 x5 x6 x7 x8 P G N x13 x14 x15 x16 x17 x18) = .nx (Lg ns b o' x3 x4 x5 x6 x7 x8 P G N x13 (some (.t (.int k))) x15 x16 x17 x18) := by
  obtain ⟨k, o', q, k0, k1, b1⟩ := take_spec (w := (G.length : Int)) hb (by omega) (by omega)
  obtain ⟨j, rfl⟩ : ∃ j : Nat, k = j := ⟨k.toNat, by omega⟩
  refine ⟨j, o', by omega, b1, ?_⟩
  have ln : lenF [.lst G] = some (.t (.int G.length)) := rfl
  clear k0 k1 h0 h1
  unfold eb_law_17
  generalize ((j : Nat) : Int) = J at *
  generalize ((G.length : Nat) : Int) = W at *
  simp [-lenF, q, ln]
theorem s18_ok (d : Drawn ts ps) {k : Nat} (hk : k < (goodT ts).length) : eb_law_18 (Lg ns b o x3 x4 x5 x6 x7 x8 P ((goodT ts).map tkV) ((nmL (goodT ts)).map .str) x13 (some (.t (.int k))) x15 x16 x17 x18) = .nx (Lg ns b o x3 x4 x5 x6 x7 x8 P ((goodT ts).map tkV) ((nmL (goodT ts)).map .str) x13 (some (.t (.int k))) x15 x16 x17 x18) := by
  have l := d.glen
  have hk' : k < (nmL (goodT ts)).length := by rw [List.length_map]; exact hk
  obtain ⟨s, es⟩ : ∃ s, (nmL (goodT ts))[k]? = some s := ⟨_, List.getElem?_eq_getElem hk'⟩
  have ms : s ∈ nmL (goodT ts) := List.mem_of_getElem? es
  have ix : ixP (.lst ((nmL (goodT ts)).map .str)) (.int k) = some (.str s) := by
    show atI ((nmL (goodT ts)).map PV.str) (k : Int) = _
    exact atI_nat (by rw [List.getElem?_map, es]; rfl)
  have i := init_ok (d.gnm s ms).1 false true
  change Lib.F_Task___init__ ks _ = _ at i
  have em : (goodT ts ++ [(s, false, true)]).map tkV = (goodT ts).map tkV ++ [.ins 14 (tkF (.str s) (.bl false) (.bl true))] := List.map_append ..
  have en : nmL (goodT ts ++ [(s, false, true)]) = nmL (goodT ts) ++ [s] := List.map_append ..
  have m := name_twice (v := .lst ((goodT ts ++ [(s, false, true)]).map tkV)) (u := .non) (ts := goodT ts ++ [(s, false, true)]) (.inl rfl) (by rw [List.length_append, List.length_singleton]; omega) (by rw [en]; exact once_twice ms)
  rw [em] at m
  have l1 : ((goodT ts).map tkV).length + 1 ≤ 1000000 := by rw [List.length_map]; omega
  clear em en ms es hk' hk l d
  generalize tkF (.str s) (.bl false) (.bl true) = T at *
  generalize (goodT ts).map tkV = G at *
  generalize (nmL (goodT ts)).map PV.str = N at *
  generalize ((k : Nat) : Int) = K at *
  have z : (eRes (rBin addA (eVar 10) (eLst (aCons (eRes (rMake 14 4 (Lib.F_Task___init__ ks) [] (aCons (eBin ixP (eVar 11) (eVar 14)) (aCons (eCon (.bl false)) (aCons (eCon (.bl true)) aNil))))) aNil)))) (hideE [] (Lg ns b o x3 x4 x5 x6 x7 x8 P G N x13 (some (.t (.int K))) x15 x16 x17 x18)) = .ok (.tr (.lst (G ++ [.ins 14 T]))) (hideE [] (Lg ns b o x3 x4 x5 x6 x7 x8 P G N x13 (some (.t (.int K))) x15 x16 x17 x18)) := by
    have lk : eVar 10 (hideE [] (Lg ns b o x3 x4 x5 x6 x7 x8 P G N x13 (some (.t (.int K))) x15 x16 x17 x18)) = .ok (.tr (.lst G)) (hideE [] (Lg ns b o x3 x4 x5 x6 x7 x8 P G N x13 (some (.t (.int K))) x15 x16 x17 x18)) := rfl
    have lk1 : eVar 11 (hideE [] (Lg ns b o x3 x4 x5 x6 x7 x8 P G N x13 (some (.t (.int K))) x15 x16 x17 x18)) = .ok (.tr (.lst N)) (hideE [] (Lg ns b o x3 x4 x5 x6 x7 x8 P G N x13 (some (.t (.int K))) x15 x16 x17 x18)) := rfl
    have lk2 : eVar 14 (hideE [] (Lg ns b o x3 x4 x5 x6 x7 x8 P G N x13 (some (.t (.int K))) x15 x16 x17 x18)) = .ok (.tr (.int K)) (hideE [] (Lg ns b o x3 x4 x5 x6 x7 x8 P G N x13 (some (.t (.int K))) x15 x16 x17 x18)) := rfl
    generalize hideE [] _ = E at *
    simp [-eVar, lk, lk1, lk2, ix, rMake, i, addA, l1]
  unfold eb_law_18
  exact ask_ok (told_mk_x rfl z rfl m)
def badL : List PV := [.tup [.str "x", .str "qqqq"], .lst [.str "x", .str "y"], .tup [.str "x"], .tup [.str "x", .str "y", .str "x"], .str "xy", .non, .tup [.int 0, .str "x"], .tup [.lst [.str "x"], .str "y"]]
theorem s19_ok : eb_law_19 (Lg ns b o x3 x4 x5 x6 x7 x8 P G N x13 x14 x15 x16 x17 x18) = .nx (Lg ns b o x3 x4 x5 x6 x7 x8 P G N x13 x14 (some (.t (.lst badL))) x16 x17 x18) := by
  unfold eb_law_19 badL
  simp
theorem bad_is (d : Drawn ts ps) : ∀ x ∈ badL, dat 6 x = true ∧ (items x).length ≤ 1000 ∧ needB (nmL (goodT ts)) x = false := by
  have q : strIn (nmL (goodT ts)) (.str "qqqq") = false := by
    cases h : strIn (nmL (goodT ts)) (.str "qqqq") with
    | false => rfl
    | true =>
      have m : ("qqqq" : Str) ∈ nmL (goodT ts) := List.contains_iff_mem.mp h
      rw [nm_good] at m
      rcases List.mem_append.mp m with m | m
      · have := d.nin _ m
        revert this
        decide +kernel
      · revert m
        decide +kernel
  intro x hx
  simp only [badL, List.mem_cons, List.mem_nil_iff, or_false] at hx
  generalize nmL (goodT ts) = M at *
  rcases hx with rfl | rfl | rfl | rfl | rfl | rfl | rfl | rfl
  all_goals refine ⟨rfl, by decide, ?_⟩
  · show (decide (2 = 2) && ([PV.str "x", PV.str "qqqq"].all (strIn M))) = false
    simp [q]
  all_goals first | rfl | (show (_ && ([_, _].all (strIn M))) = false; simp [strIn])
theorem s6_ok {u : PV} (h : Lib.F_Tasks___init__ ks [.ow (.ins 15 []), .t (.lst G), .t u] = exT "needs" (.lst G) u) : eb_law_6 (Lg ns b o x3 x4 x5 x6 x7 x8 P G N x13 x14 x15 (some (.t u)) x17 x18) = .nx (Lg ns b o x3 x4 x5 x6 x7 x8 P G N x13 x14 x15 (some (.t u)) x17 x18) := by
  unfold eb_law_6
  exact ask_ok (told_mk_x rfl rfl rfl h)
theorem bad_needs (d : Drawn ts ps) {w : PV} (hw : w ∈ badL) : ∀ u ∈ ([.non, .int 0, .str "x", .tup [.str "x", .str "y"], .lst (ps.map prP ++ [w])] : List PV), Lib.F_Tasks___init__ ks [.ow (.ins 15 []), .t (.lst ((goodT ts).map tkV)), .t u] = exT "needs" (.lst ((goodT ts).map tkV)) u := by
  have l := d.glen
  have l2 := d.lp
  obtain ⟨w1, w2, w3⟩ := bad_is d w hw
  intro u hu
  have no : ∀ u : PV, Lib.F_is_sequence ks [.t u] = .ret (.t (.bl false)) [.t u] → Lib.F_Tasks___init__ ks [.ow (.ins 15 []), .t (.lst ((goodT ts).map tkV)), .t u] = exT "needs" (.lst ((goodT ts).map tkV)) u := fun u h => needs_no (.inl rfl) (by omega) d.gnd h
  simp only [List.mem_cons, List.mem_nil_iff, or_false] at hu
  rcases hu with rfl | rfl | rfl | rfl | rfl
  · exact no _ rfl
  · exact no _ rfl
  · exact no _ rfl
  · refine needs_bad (n := 5) (us := [.str "x", .str "y"]) (.inl rfl) (by omega) d.gnd (.inr rfl) (fun x hx => ?_) (by decide) rfl
    simp only [List.mem_cons, List.mem_nil_iff, or_false] at hx
    rcases hx with rfl | rfl <;> exact ⟨rfl, by decide⟩
  · refine needs_bad (n := 5) (us := ps.map prP ++ [w]) (.inl rfl) (by omega) d.gnd (.inl rfl) (fun x hx => ?_) (by rw [List.length_append, List.length_map, List.length_singleton]; omega) (by rw [List.all_append, List.all_cons, w3, Bool.false_and, Bool.and_false])
    rcases List.mem_append.mp hx with h | h
    · obtain ⟨p, _, rfl⟩ := List.mem_map.mp h
      exact ⟨rfl, by show 2 ≤ 1000; decide⟩
    · rw [List.mem_singleton.mp h]
      exact ⟨w1, w2⟩
theorem s20_ok (d : Drawn ts ps) (hb : IsBoxC o) : ∃ (o' : OS) (y : Option TreeL.Arg), IsBoxC o' ∧ eb_law_20 (Lg ns b o x3 x4 x5 x6 x7 x8 (ps.map prP) ((goodT ts).map tkV) N x13 x14 (some (.t (.lst badL))) x16 x17 x18) = .nx (Lg ns b o' x3 x4 x5 x6 x7 x8 (ps.map prP) ((goodT ts).map tkV) N x13 x14 (some (.t (.lst badL))) y x17 x18) := by
  obtain ⟨w, o', q, hw, b1⟩ := pick_spec (xs := badL) hb (by decide) (by decide)
  have g := bad_needs d hw
  have l1 : (ps.map prP).length + 1 ≤ 1000000 := by rw [List.length_map]; have := d.lp; omega
  generalize (goodT ts).map tkV = G at *
  generalize ps.map prP = P at *
  generalize badL = B at *
  obtain ⟨y, h⟩ := loop_nm (body := eb_law_6) (j := 16) (env := Lg ns b o' x3 x4 x5 x6 x7 x8 P G N x13 x14 (some (.t (.lst B))) x16 x17 x18) [.non, .int 0, .str "x", .tup [.str "x", .str "y"], .lst (P ++ [w])] x16 fun u hu => s6_ok (g u hu)
  refine ⟨o', y, b1, ?_⟩
  have z : iAny [] (eTup (aCons (eCon .non) (aCons (eCon (.int 0)) (aCons (eCon (.str "x")) (aCons (eCon (.tup [.str "x", .str "y"])) (aCons (eRes (rBin addA (eVar 9) (eLst (aCons (eRes (rCall 2 Lib.F_h_pick_b [] (aCons (eVar 2) (aCons (eVar 15) aNil)))) aNil)))) aNil)))))) (Lg ns b o x3 x4 x5 x6 x7 x8 P G N x13 x14 (some (.t (.lst B))) x16 x17 x18) = .ok ⟨[.non, .int 0, .str "x", .tup [.str "x", .str "y"], .lst (P ++ [w])], .tr .non⟩ (Lg ns b o' x3 x4 x5 x6 x7 x8 P G N x13 x14 (some (.t (.lst B))) x16 x17 x18) := by
    simp [q, addA, l1]
  have z2 : iAny [] (eTup (aCons (eCon .non) (aCons (eCon (.int 0)) (aCons (eCon (.str "x")) (aCons (eTup (aCons (eCon (.str "x")) (aCons (eCon (.str "y")) aNil))) (aCons (eRes (rBin addA (eVar 9) (eLst (aCons (eRes (rCall 2 Lib.F_h_pick_b [] (aCons (eVar 2) (aCons (eVar 15) aNil)))) aNil)))) aNil)))))) (Lg ns b o x3 x4 x5 x6 x7 x8 P G N x13 x14 (some (.t (.lst B))) x16 x17 x18) = .ok ⟨[.non, .int 0, .str "x", .tup [.str "x", .str "y"], .lst (P ++ [w])], .tr .non⟩ (Lg ns b o' x3 x4 x5 x6 x7 x8 P G N x13 x14 (some (.t (.lst B))) x16 x17 x18) := z
  clear z
  unfold eb_law_20
  simp only [sFor, z2, RE.so]
  exact h
end Lk54
end
section
namespace Lk54
open PySem PySem.Spec PyProof.Rows L2 TreeL Pw Tk
@[local simp] theorem LIM_eqto : LIM = 1000000 := rfl
variable {ns : List Int} {b : Int} {o : OS} {x3 x4 x5 x6 x7 x8 x9 x10 x11 x13 x14 x15 x16 x17 x18 : Option TreeL.Arg} {G P N : List PV} {ts : List TkT} {ps : List Pr2}
theorem s21_ok {nm : List Str} (hb : IsBoxC o) (h0 : 0 < nm.length) (h1 : nm.length ≤ 500) : ∃ (R : List Str) (o' : OS), 0 < R.length ∧ R.length ≤ 500 ∧ (∀ s ∈ R, s ∈ nm) ∧ IsBoxC o' ∧ eb_law_21 (Lg ns b o x3 x4 x5 x6 x7 x8 P G (nm.map .str) x13 x14 x15 x16 x17 x18) = .nx (Lg ns b o' x3 x4 x5 x6 x7 x8 P G (nm.map .str) x13 x14 x15 x16 (some (.t (.lst (R.map .str)))) x18) := by
  obtain ⟨ys, o1, q1, hp, b1⟩ := mixed_strs (xs := nm) hb (by omega)
  obtain ⟨k, o2, q2, k0, k1, b2⟩ := take_spec (w := ((nm.map PV.str).length : Int)) b1 (by rw [List.length_map]; omega) (by rw [List.length_map]; omega)
  obtain ⟨j, rfl⟩ : ∃ j : Nat, k = j := ⟨k.toNat, by omega⟩
  obtain ⟨R, hR⟩ : ∃ R, R = ys.take (1 + j) := ⟨_, rfl⟩
  have ly := hp.length_eq
  rw [List.length_map] at k1
  have lR : R.length = min (1 + j) ys.length := by rw [hR, List.length_take]
  refine ⟨R, o2, by omega, by omega, fun s hs => hp.subset (by rw [hR] at hs; exact List.mem_of_mem_take hs), b2, ?_⟩
  have cut : cutP (ys.map PV.str) none (some ((1 : Int) + (j : Int))) = R.map .str := by
    rw [show (1 : Int) + (j : Int) = ((1 + j : Nat) : Int) by omega, cutP_map, hR]
    simp only [HT.sIx, if_neg (show ¬ (((1 + j : Nat) : Int) < 0) by omega), Int.toNat_natCast, List.drop_zero, Nat.sub_zero]
    congr 1
    by_cases c : 1 + j ≤ ys.length
    · rw [Nat.min_eq_left c]
    · rw [Nat.min_eq_right (by omega), List.take_of_length_le (Nat.le_refl _), List.take_of_length_le (by omega)]
  have ln : lenF [.lst (nm.map PV.str)] = some (.t (.int ((nm.map PV.str).length : Int))) := rfl
  clear k0 k1 h0 h1 hR lR ly hp
  generalize nm.map PV.str = M at *
  generalize ys.map PV.str = Y at *
  generalize R.map PV.str = T at *
  generalize ((j : Nat) : Int) = J at *
  generalize ((M.length : Nat) : Int) = W at *
  unfold eb_law_21
  simp [q1, q2, ln, slA, addA, cut]
abbrev pr (R : List Str) (i : Nat) : Pr2 := (R.getD i "", R.getD ((i + 1) % R.length) "")
abbrev ringP (R : List Str) : List Pr2 := (List.range R.length).map (pr R)
theorem getD_ix {R : List Str} {i : Nat} (h : i < R.length) : ixP (.lst (R.map .str)) (.int (i : Int)) = some (.str (R.getD i "")) := by
  show atI (R.map PV.str) (i : Int) = _
  refine atI_nat ?_
  rw [List.getElem?_map, List.getD_eq_getElem?_getD, List.getElem?_eq_getElem h]
  rfl
theorem s22_ok {R : List Str} {y : PV} (h0 : 0 < R.length) (h1 : R.length ≤ 500) : eb_law_22 (Lg ns b o x3 x4 x5 x6 x7 x8 P G N x13 (some (.t y)) x15 x16 (some (.t (.lst (R.map .str)))) x18) = .nx (Lg ns b o x3 x4 x5 x6 x7 x8 P G N x13 (some (.t y)) x15 x16 (some (.t (.lst (R.map .str)))) (some (.t (.lst ((ringP R).map prP))))) := by
  have lr : (rangeL 0 R.length) = (List.range R.length).map (fun i : Nat => PV.int (i : Int)) := by
    unfold rangeL
    exact List.map_congr_left fun i _ => by rw [Int.zero_add]
  have ei : iRngA (aCons (eRes (rBui lenF (aCons (eVar 17) aNil))) aNil) (Lg ns b o x3 x4 x5 x6 x7 x8 P G N x13 (some (.t y)) x15 x16 (some (.t (.lst (R.map .str)))) x18) = .ok ⟨(List.range R.length).map (fun i : Nat => PV.int (i : Int)), .tr .non⟩ (Lg ns b o x3 x4 x5 x6 x7 x8 P G N x13 (some (.t y)) x15 x16 (some (.t (.lst (R.map .str)))) x18) := by
    rw [← lr]
    have ln : lenF [.lst (R.map PV.str)] = some (.t (.int (R.length : Int))) := by
      show some (Arg.t (.int ((R.map PV.str).length : Int))) = _
      rw [List.length_map]
    have tn : ((R.length : Nat) : Int).toNat = R.length := rfl
    have c1 : -1000000000 ≤ ((R.length : Nat) : Int) ∧ ((R.length : Nat) : Int) ≤ 1000000000 := by omega
    clear lr
    generalize R.map PV.str = T at *
    generalize hL : ((R.length : Nat) : Int) = L at *
    simp [ln, c1, tn]
  have cc := compX (et := tYesT) (ea := eTup (aCons (eBin ixP (eVar 17) (eVar 14)) (aCons (eBin ixP (eVar 17) (eBin modP (eRes (rBin addA (eVar 14) (eCon (.int 1)))) (eRes (rBui lenF (aCons (eVar 17) aNil))))) aNil))) (al := fun _ => true) (env := Lg ns b o x3 x4 x5 x6 x7 x8 P G N x13 none x15 x16 (some (.t (.lst (R.map .str)))) x18) (j := 14) (fun i : Nat => PV.int (i : Int)) (fun _ => true) (fun i => prP (pr R i)) rfl rfl (List.range R.length) [] (by rw [List.length_range, List.length_nil]; omega) (fun i hi => by
    refine ⟨rfl, fun _ => ?_⟩
    have hi := List.mem_range.mp hi
    have ln : lenF [.lst (R.map PV.str)] = some (.t (.int (R.length : Int))) := by
      show some (Arg.t (.int ((R.map PV.str).length : Int))) = _
      rw [List.length_map]
    have i1 := getD_ix hi
    have i2 := getD_ix (Nat.mod_lt (i + 1) h0)
    have md : modP (.int ((i : Int) + 1)) (.int (R.length : Int)) = some (.int (((i + 1) % R.length : Nat) : Int)) := by
      show (if 0 < ((R.length : Nat) : Int) then some (PV.int (((i : Int) + 1) % (R.length : Int))) else none) = _
      rw [if_pos (by omega)]
      congr 2
    simp only [prP, pr]
    generalize R.getD i "" = A at *
    generalize R.getD ((i + 1) % R.length) "" = C at *
    generalize (((i + 1) % R.length : Nat) : Int) = M at *
    generalize R.map PV.str = T at *
    generalize ((i : Nat) : Int) = I at *
    generalize ((R.length : Nat) : Int) = L at *
    simp [-modP, ln, i1, i2, md, addA])
  rw [List.nil_append, List.filter_eq_self.mpr fun _ _ => rfl, show (List.range R.length).map (fun i => prP (pr R i)) = (ringP R).map prP from by unfold ringP; rw [List.map_map]; rfl] at cc
  have no : noOwn (Lg ns b o x3 x4 x5 x6 x7 x8 P G N x13 (some (.t y)) x15 x16 (some (.t (.lst (R.map .str)))) x18) [14] = true := rfl
  have we : wipeE (Lg ns b o x3 x4 x5 x6 x7 x8 P G N x13 (some (.t y)) x15 x16 (some (.t (.lst (R.map .str)))) x18) [14] = Lg ns b o x3 x4 x5 x6 x7 x8 P G N x13 none x15 x16 (some (.t (.lst (R.map .str)))) x18 := rfl
  have un : unW (Lg ns b o x3 x4 x5 x6 x7 x8 P G N x13 (some (.t y)) x15 x16 (some (.t (.lst (R.map .str)))) x18) (Lg ns b o x3 x4 x5 x6 x7 x8 P G N x13 none x15 x16 (some (.t (.lst (R.map .str)))) x18) [14] = Lg ns b o x3 x4 x5 x6 x7 x8 P G N x13 (some (.t y)) x15 x16 (some (.t (.lst (R.map .str)))) x18 := rfl
  have e : eOf (fComp (iRngA (aCons (eRes (rBui lenF (aCons (eVar 17) aNil))) aNil)) (gNm 14) tYesT (eTup (aCons (eBin ixP (eVar 17) (eVar 14)) (aCons (eBin ixP (eVar 17) (eBin modP (eRes (rBin addA (eVar 14) (eCon (.int 1)))) (eRes (rBui lenF (aCons (eVar 17) aNil))))) aNil))) [14]) (Lg ns b o x3 x4 x5 x6 x7 x8 P G N x13 (some (.t y)) x15 x16 (some (.t (.lst (R.map .str)))) x18) = .ok (.tr (.lst ((ringP R).map prP))) (Lg ns b o x3 x4 x5 x6 x7 x8 P G N x13 (some (.t y)) x15 x16 (some (.t (.lst (R.map .str)))) x18) := by
    have al : alive (Vl.tr .non) ((List.range R.length).map (fun i : Nat => PV.int (i : Int))) = fun _ => true := rfl
    unfold eOf fComp
    rw [ei]
    simp only [RE.bind, no, if_true, we, al, cc, un, OS.tree]
  clear cc no we un ei
  unfold eb_law_22
  generalize (ringP R).map prP = Y at *
  generalize R.map PV.str = T at *
  generalize eOf (fComp _ _ _ _ _) = E at *
  simp [e]
theorem ring_lead {R : List Str} {qs : List Pr2} (h0 : 0 < R.length) (h : ∀ p ∈ ringP R, p ∈ qs) : ∃ a, Lead qs a a := by
  have st : ∀ i, i < R.length → Lead qs (R.getD i "") (R.getD ((i + 1) % R.length) "") := fun i hi => .one (h _ (List.mem_map_of_mem (f := pr R) (List.mem_range.mpr hi)))
  have go : ∀ k, k < R.length → Lead qs (R.getD 0 "") (R.getD ((k + 1) % R.length) "") := fun k => by
    induction k with
    | zero => exact fun hk => st 0 hk
    | succ k ih =>
      intro hk
      have := ih (by omega)
      rw [Nat.mod_eq_of_lt hk] at this
      exact this.cat (st (k + 1) hk)
  have := go (R.length - 1) (by omega)
  rw [show R.length - 1 + 1 = R.length by omega, Nat.mod_self] at this
  exact ⟨_, this⟩
end Lk54
end
section
namespace Lk54
open PySem PySem.Spec PyProof.Rows L2 TreeL Pw Tk
@[local simp] theorem LIM_eqtp : LIM = 1000000 := rfl
variable {ns : List Int} {b : Int} {o : OS} {x3 x4 x5 x6 x7 x8 x9 x10 x11 x13 x14 x15 x16 x17 x18 : Option TreeL.Arg} {G P N : List PV} {ts : List TkT} {ps : List Pr2}
theorem told_excB {env : En} {w : EvR} {g g' : List Int} {f f' : List (Str × Int)} {d : Str} (hw : ∀ r, w (some (.ow (.boxF g f)) :: r) = .exc ⟨24, [("word", .str d)]⟩ (some (.ow (.boxF g' f')) :: r)) :
    toldEndB 2 env (tb__law_word w [some (.ow (.boxF g f)), none, none]) = .ok (.t (.str d)) (env.set 2 (some (.ow (.boxD g' f')))) := by
  have o1 : okT [0] [0] 2 [some (.ow (.boxF g' f')), some (.t (.str "made")), none] = true := rfl
  unfold tb__law_word
  simp [sTryT, o1, hw]
theorem ask_ok2 {r : EvR} {w : Str} {env env' : En} (h : r env = .ok (.t (.str w)) env') : (sIf (tBl (eBin neP (eRes r) (eCon (.str w)))) (sRet [] (eCon (.bl false))) sSkip) env = .nx env' := by
  have ne : neP (.str w) (.str w) = some (.bl false) := by simp [neP, dat, peq]
  simp [h, ne]
theorem mk_x2 {a1 a2 : EvE} {e e' : En} {v u : PV} {w : Str} (h1 : a1 e = .ok (.tr v) e) (h2 : a2 e = .ok (.tr u) e') (i : Lib.F_Tasks___init__ ks [.ow (.ins 15 []), .t v, .t u] = exT w v u) : mkT a1 a2 e = .exc ⟨24, [("word", .str w)]⟩ e' := by
  simp only [exT] at i
  simp [rMake, h1, h2, i]
abbrev mixE : EvE := eRes (rCall 2 Lib.F_h_mixed_b [] (aCons (eVar 2) (aCons (eRes (rBin addA (eVar 18) (eVar 9))) aNil)))
theorem told_ringB {d : Str} {g g' : List Int} {m m' : Int} {Q Y : List PV} (l1 : Q.length + P.length ≤ 1000000)
    (q : Lib.F_h_mixed_b [.ow (bx g m), .t (.lst (Q ++ P))] = .ret (.ow (.lst Y)) [.ow (bx g' m'), .t (.lst (Q ++ P))])
    (i : Lib.F_Tasks___init__ ks [.ow (.ins 15 []), .t (.lst G), .t (.lst Y)] = exT d (.lst G) (.lst Y)) :
    rToldB 3 2 [] tb__law_word (mkT (eVar 10) mixE) (Lg ns b (bx g m) x3 x4 x5 x6 x7 x8 P G N x13 x14 x15 x16 x17 (some (.t (.lst Q)))) = .ok (.t (.str d)) (Lg ns b (bx g' m') x3 x4 x5 x6 x7 x8 P G N x13 x14 x15 x16 x17 (some (.t (.lst Q)))) := by
  have hh : (hideE [] (Lg ns b (bx g m) x3 x4 x5 x6 x7 x8 P G N x13 x14 x15 x16 x17 (some (.t (.lst Q))))) = [none, some (.t (.int b)), none, hideA x3, hideA x4, hideA x5, hideA x6, hideA x7, hideA x8, some (.t (.lst P)), some (.t (.lst G)), some (.t (.lst N)), none, hideA x13, hideA x14, hideA x15, hideA x16, hideA x17, some (.t (.lst Q))] := rfl
  have m2 : mixE [none, some (.t (.int b)), some (.ow (bx g m)), hideA x3, hideA x4, hideA x5, hideA x6, hideA x7, hideA x8, some (.t (.lst P)), some (.t (.lst G)), some (.t (.lst N)), none, hideA x13, hideA x14, hideA x15, hideA x16, hideA x17, some (.t (.lst Q))] = .ok (.tr (.lst Y)) [none, some (.t (.int b)), some (.ow (bx g' m')), hideA x3, hideA x4, hideA x5, hideA x6, hideA x7, hideA x8, some (.t (.lst P)), some (.t (.lst G)), some (.t (.lst N)), none, hideA x13, hideA x14, hideA x15, hideA x16, hideA x17, some (.t (.lst Q))] := by
    clear hh i
    generalize hideA x3 = a3 at *
    generalize hideA x4 = a4 at *
    generalize hideA x5 = a5 at *
    generalize hideA x6 = a6 at *
    generalize hideA x7 = a7 at *
    generalize hideA x8 = a8 at *
    generalize hideA x13 = a13 at *
    generalize hideA x14 = a14 at *
    generalize hideA x15 = a15 at *
    generalize hideA x16 = a16 at *
    generalize hideA x17 = a17 at *
    generalize bx g m = B1 at *
    generalize bx g' m' = B2 at *
    simp [addA, l1, q]
  have h1 : eVar 10 [none, some (.t (.int b)), some (.ow (bx g m)), hideA x3, hideA x4, hideA x5, hideA x6, hideA x7, hideA x8, some (.t (.lst P)), some (.t (.lst G)), some (.t (.lst N)), none, hideA x13, hideA x14, hideA x15, hideA x16, hideA x17, some (.t (.lst Q))] = .ok (.tr (.lst G)) [none, some (.t (.int b)), some (.ow (bx g m)), hideA x3, hideA x4, hideA x5, hideA x6, hideA x7, hideA x8, some (.t (.lst P)), some (.t (.lst G)), some (.t (.lst N)), none, hideA x13, hideA x14, hideA x15, hideA x16, hideA x17, some (.t (.lst Q))] := rfl
  have mk := mk_x2 h1 m2 i
  have hw : ∀ r, rAskB 2 (hideE [] (Lg ns b (bx g m) x3 x4 x5 x6 x7 x8 P G N x13 x14 x15 x16 x17 (some (.t (.lst Q))))) (mkT (eVar 10) mixE) (some (.ow (.boxF g [("mixed", m)])) :: r) = .exc ⟨24, [("word", .str d)]⟩ (some (.ow (.boxF g' [("mixed", m')])) :: r) := fun r => by
    unfold rAskB
    rw [hh]
    change (match mkT (eVar 10) mixE [none, some (.t (.int b)), some (.ow (bx g m)), hideA x3, hideA x4, hideA x5, hideA x6, hideA x7, hideA x8, some (.t (.lst P)), some (.t (.lst G)), some (.t (.lst N)), none, hideA x13, hideA x14, hideA x15, hideA x16, hideA x17, some (.t (.lst Q))] with
      | .ok x e => _
      | .exc y e => _
      | .bad => _) = _
    rw [mk]
    rfl
  exact (told_excB (env := Lg ns b (bx g m) x3 x4 x5 x6 x7 x8 P G N x13 x14 x15 x16 x17 (some (.t (.lst Q)))) hw).trans rfl
theorem s23_ok {R : List Str} (d : Drawn ts ps) (hb : IsBoxC o) (h0 : 0 < R.length) (h1 : R.length ≤ 500) (hR : ∀ s ∈ R, s ∈ nmL (goodT ts)) : ∃ o', IsBoxC o' ∧ eb_law_23 (Lg ns b o x3 x4 x5 x6 x7 x8 (ps.map prP) ((goodT ts).map tkV) N x13 x14 x15 x16 x17 (some (.t (.lst ((ringP R).map prP))))) = .nx (Lg ns b o' x3 x4 x5 x6 x7 x8 (ps.map prP) ((goodT ts).map tkV) N x13 x14 x15 x16 x17 (some (.t (.lst ((ringP R).map prP))))) := by
  have l2 := d.lp
  have lq : (ringP R ++ ps).length ≤ 600 := by rw [List.length_append, List.length_map, List.length_range]; omega
  obtain ⟨ys, o', q, hp, b1⟩ := mixed_perm (α := Pr2) prP (fun v => match v with | .tup [.str a, .str b] => (a, b) | _ => ("", "")) (fun _ => rfl) (xs := ringP R ++ ps) hb (by omega) (fun x _ => rfl)
  refine ⟨o', b1, ?_⟩
  obtain ⟨g, m, rfl, _⟩ := hb
  obtain ⟨g', m', rfl, _⟩ := b1
  have ly := hp.length_eq
  have gm : ∀ i, i < R.length → R.getD i "" ∈ nmL (goodT ts) := fun i hi => by
    rw [List.getD_eq_getElem?_getD, List.getElem?_eq_getElem hi]
    exact hR _ (List.getElem_mem hi)
  have hN : ∀ p ∈ ys, p.1 ∈ nmL (goodT ts) ∧ p.2 ∈ nmL (goodT ts) := fun p hy => by
    rcases List.mem_append.mp (hp.subset hy) with h | h
    · obtain ⟨i, hi, rfl⟩ := List.mem_map.mp h
      have hi := List.mem_range.mp hi
      exact ⟨gm i hi, gm _ (Nat.mod_lt _ h0)⟩
    · exact d.gin p h
  have te := (tasks_end (v := .lst ((goodT ts).map tkV)) (u := .lst (ys.map prP)) (.inl rfl) (by have := d.glen; omega) d.gnd (.inl rfl) (by omega) hN (good_of d hN)).1 (ring_lead h0 fun p h => hp.symm.subset (List.mem_append_left _ h))
  have em : (ringP R ++ ps).map prP = (ringP R).map prP ++ ps.map prP := List.map_append ..
  rw [em] at q
  have l1 : ((ringP R).map prP).length + (ps.map prP).length ≤ 1000000 := by rw [← List.length_append, ← em, List.length_map]; omega
  unfold eb_law_23
  exact ask_ok2 (told_ringB l1 q te)
end Lk54
end
section
namespace Lk54
open PySem PySem.Spec PyProof.Rows L2 TreeL Pw Tk
@[local simp] theorem LIM_eqtz : LIM = 1000000 := rfl
variable {ns : List Int} {b : Int} {o : OS} {x2 x3 x4 x5 x6 x7 x8 x9 x10 x11 x13 x14 x15 x16 x17 x18 : Option TreeL.Arg} {G P N : List PV} {ts : List TkT} {ps : List Pr2}
theorem law_turn (hb : 0 ≤ b ∧ b < 1000) (n5 : NoO x5) (n6 : NoO x6) (n7 : NoO x7) : ∃ (y2 y3 y4 y5 y6 y7 y8 y9 y10 y11 y13 y14 y15 y16 y17 y18 : Option TreeL.Arg), eb_law_25 (L0 ns b x2 x3 x4 x5 x6 x7 x8 x9 x10 x11 x13 x14 x15 x16 x17 x18) = .nx (L0 ns b y2 y3 y4 y5 y6 y7 y8 y9 y10 y11 y13 y14 y15 y16 y17 y18) ∧ NoO y5 ∧ NoO y6 ∧ NoO y7 := by
  obtain ⟨o1, e7, b1⟩ := s7_ok (ns := ns) (x2 := x2) (x3 := x3) (x4 := x4) (x5 := x5) (x6 := x6) (x7 := x7) (x8 := x8) (x9 := x9) (x10 := x10) (x11 := x11) (x13 := x13) (x14 := x14) (x15 := x15) (x16 := x16) (x17 := x17) (x18 := x18) hb
  have e8 := s8_ok (ns := ns) (b := b) (o := o1) (x3 := x3) (x4 := x4) (x5 := x5) (x6 := x6) (x7 := x7) (x8 := x8) (x9 := x9) (x10 := x10) (x11 := x11) (x13 := x13) (x14 := x14) (x15 := x15) (x16 := x16) (x17 := x17) (x18 := x18)
  have e9 := s9_ok (ns := ns) (b := b) (o := o1) (x4 := x4) (x5 := x5) (x6 := x6) (x7 := x7) (x8 := x8) (x9 := x9) (x10 := x10) (x11 := x11) (x13 := x13) (x14 := x14) (x15 := x15) (x16 := x16) (x17 := x17) (x18 := x18)
  obtain ⟨o2, y4, y5, y6, y7, e10, b2, m5, m6, m7⟩ := s10_ok (ns := ns) (b := b) (x4 := x4) (x8 := x8) (x9 := x9) (x10 := x10) (x11 := x11) (x13 := x13) (x14 := x14) (x15 := x15) (x16 := x16) (x17 := x17) (x18 := x18) b1 odd_ok n5 n6 n7
  obtain ⟨ts, ps, o3, e11, b3, d⟩ := s11_ok (ns := ns) (b := b) (x3 := some (.t (.lst (odd1 ++ odd2)))) (x4 := y4) (x5 := y5) (x6 := y6) (x7 := y7) (x8 := x8) (x9 := x9) (x10 := x10) (x11 := x11) (x13 := x13) (x14 := x14) (x15 := x15) (x16 := x16) (x17 := x17) (x18 := x18) b2
  have e12 := s12_ok (ns := ns) (b := b) (o := o3) (x3 := some (.t (.lst (odd1 ++ odd2)))) (x4 := y4) (x9 := some (.t (.lst (ps.map prP)))) (x10 := x10) (x11 := x11) (x13 := x13) (x14 := x14) (x15 := x15) (x16 := x16) (x17 := x17) (x18 := x18) d.len (fun t ht => (nine_nm _ (d.nin _ (List.mem_map_of_mem ht))).1) m5 m6 m7
  have gl := d.glen
  have g2 : (goodT ts).length = ts.length + 2 := by rw [List.length_append]; rfl
  have e13 := s13_ok (ns := ns) (b := b) (o := o3) (x3 := some (.t (.lst (odd1 ++ odd2)))) (x4 := y4) (x5 := y5) (x6 := y6) (x7 := y7) (x8 := some (.t (.lst (ts.map t3P)))) (x9 := some (.t (.lst (ps.map prP)))) (x11 := x11) (x13 := x13) (x14 := x14) (x15 := x15) (x16 := x16) (x17 := x17) (x18 := x18) (ts := goodT ts) (by omega)
  have e14 := s14_ok (ns := ns) (b := b) (o := o3) (x3 := some (.t (.lst (odd1 ++ odd2)))) (x4 := y4) (x5 := y5) (x6 := y6) (x7 := y7) (x8 := some (.t (.lst (ts.map t3P)))) (N := (nmL (goodT ts)).map .str) (x13 := x13) (x14 := x14) (x15 := x15) (x16 := x16) (x17 := x17) (x18 := x18) d
  have e15 := s15_ok (ns := ns) (b := b) (o := o3) (x3 := some (.t (.lst (odd1 ++ odd2)))) (x4 := y4) (x5 := y5) (x6 := y6) (x7 := y7) (x8 := some (.t (.lst (ts.map t3P)))) (N := (nmL (goodT ts)).map .str) (x13 := x13) (x14 := x14) (x15 := x15) (x16 := x16) (x17 := x17) (x18 := x18) d
  obtain ⟨y13, e16⟩ := s16_ok (ns := ns) (b := b) (o := o3) (x3 := some (.t (.lst (odd1 ++ odd2)))) (x4 := y4) (x5 := y5) (x6 := y6) (x7 := y7) (x8 := some (.t (.lst (ts.map t3P)))) (P := ps.map prP) (N := (nmL (goodT ts)).map .str) (x13 := x13) (x14 := x14) (x15 := x15) (x16 := x16) (x17 := x17) (x18 := x18) d
  obtain ⟨k, o4, hk, b4, e17⟩ := s17_ok (ns := ns) (b := b) (x3 := some (.t (.lst (odd1 ++ odd2)))) (x4 := y4) (x5 := y5) (x6 := y6) (x7 := y7) (x8 := some (.t (.lst (ts.map t3P)))) (P := ps.map prP) (G := (goodT ts).map tkV) (N := (nmL (goodT ts)).map .str) (x13 := y13) (x14 := x14) (x15 := x15) (x16 := x16) (x17 := x17) (x18 := x18) b3 (by rw [List.length_map]; omega) (by rw [List.length_map]; omega)
  rw [List.length_map] at hk
  have e18 := s18_ok (ns := ns) (b := b) (o := o4) (x3 := some (.t (.lst (odd1 ++ odd2)))) (x4 := y4) (x5 := y5) (x6 := y6) (x7 := y7) (x8 := some (.t (.lst (ts.map t3P)))) (P := ps.map prP) (x13 := y13) (x15 := x15) (x16 := x16) (x17 := x17) (x18 := x18) d hk
  have e19 := s19_ok (ns := ns) (b := b) (o := o4) (x3 := some (.t (.lst (odd1 ++ odd2)))) (x4 := y4) (x5 := y5) (x6 := y6) (x7 := y7) (x8 := some (.t (.lst (ts.map t3P)))) (P := ps.map prP) (G := (goodT ts).map tkV) (N := (nmL (goodT ts)).map .str) (x13 := y13) (x14 := some (.t (.int k))) (x15 := x15) (x16 := x16) (x17 := x17) (x18 := x18)
  obtain ⟨o5, y16, b5, e20⟩ := s20_ok (ns := ns) (b := b) (x3 := some (.t (.lst (odd1 ++ odd2)))) (x4 := y4) (x5 := y5) (x6 := y6) (x7 := y7) (x8 := some (.t (.lst (ts.map t3P)))) (N := (nmL (goodT ts)).map .str) (x13 := y13) (x14 := some (.t (.int k))) (x16 := x16) (x17 := x17) (x18 := x18) d b4
  obtain ⟨R, o6, r0, r1, hR, b6, e21⟩ := s21_ok (ns := ns) (b := b) (x3 := some (.t (.lst (odd1 ++ odd2)))) (x4 := y4) (x5 := y5) (x6 := y6) (x7 := y7) (x8 := some (.t (.lst (ts.map t3P)))) (P := ps.map prP) (G := (goodT ts).map tkV) (nm := nmL (goodT ts)) (x13 := y13) (x14 := some (.t (.int k))) (x15 := some (.t (.lst badL))) (x16 := y16) (x17 := x17) (x18 := x18) b5 (by rw [List.length_map]; omega) (by rw [List.length_map]; omega)
  have e22 := s22_ok (ns := ns) (b := b) (o := o6) (x3 := some (.t (.lst (odd1 ++ odd2)))) (x4 := y4) (x5 := y5) (x6 := y6) (x7 := y7) (x8 := some (.t (.lst (ts.map t3P)))) (P := ps.map prP) (G := (goodT ts).map tkV) (N := (nmL (goodT ts)).map .str) (x13 := y13) (y := .int k) (x15 := some (.t (.lst badL))) (x16 := y16) (x18 := x18) r0 r1
  obtain ⟨o7, b7, e23⟩ := s23_ok (ns := ns) (b := b) (x3 := some (.t (.lst (odd1 ++ odd2)))) (x4 := y4) (x5 := y5) (x6 := y6) (x7 := y7) (x8 := some (.t (.lst (ts.map t3P)))) (N := (nmL (goodT ts)).map .str) (x13 := y13) (x14 := some (.t (.int k))) (x15 := some (.t (.lst badL))) (x16 := y16) (x17 := some (.t (.lst (R.map .str)))) d b6 r0 r1 hR
  have e24 := s24_ok (ns := ns) (b := b) (o := o7) (x3 := some (.t (.lst (odd1 ++ odd2)))) (x4 := y4) (x5 := y5) (x6 := y6) (x7 := y7) (x8 := some (.t (.lst (ts.map t3P)))) (N := (nmL (goodT ts)).map .str) (x13 := y13) (x14 := some (.t (.int k))) (x15 := some (.t (.lst badL))) (x16 := y16) (x17 := some (.t (.lst (R.map .str)))) (x18 := some (.t (.lst ((ringP R).map prP)))) d
  refine ⟨some (.ow o7), some (.t (.lst (odd1 ++ odd2))), y4, y5, y6, y7, some (.t (.lst (ts.map t3P))), some (.t (.lst (ps.map prP))), some (.t (.lst ((goodT ts).map tkV))), some (.t (.lst ((nmL (goodT ts)).map .str))), y13, some (.t (.int k)), some (.t (.lst badL)), y16, some (.t (.lst (R.map .str))), some (.t (.lst ((ringP R).map prP))), ?_, m5, m6, m7⟩
  unfold eb_law_25
  rw [seq_nxR e7, seq_nxR e8, seq_nxR e9, seq_nxR e10, seq_nxR e11, seq_nxR e12, seq_nxR e13, seq_nxR e14, seq_nxR e15, seq_nxR e16, seq_nxR e17, seq_nxR e18, seq_nxR e19, seq_nxR e20, seq_nxR e21, seq_nxR e22, seq_nxR e23]
  exact e24
theorem how_often (ns : List Int) (hl : ns.length ≤ 63) (r : En) : ∃ n : Nat, n ≤ 3 ∧ iRngA (aCons (eRes (rBui maxF (aCons (eCon (.int 1)) (aCons (eRes (rBui minF (aCons (eCon (.int 3)) (aCons (eRes (rBui lenF (aCons (eScr 0) aNil))) aNil)))) aNil)))) aNil) (some (.ow (.scrT ns)) :: r) = .ok ⟨rangeL 0 n, .tr .non⟩ (some (.ow (.scrT ns)) :: r) := by
  have ln : lenF [.scr ns] = some (.t (.int (ns.length : Int))) := rfl
  obtain ⟨m, hm, m0, m1⟩ : ∃ m : Int, minF [.int 3, .int (ns.length : Int)] = some (.t (.int m)) ∧ 0 ≤ m ∧ m ≤ 3 := by
    refine ⟨if (ns.length : Int) < 3 then (ns.length : Int) else 3, rfl, ?_, ?_⟩ <;> split <;> omega
  obtain ⟨q, hq, q0, q1⟩ : ∃ q : Int, maxF [.int 1, .int m] = some (.t (.int q)) ∧ 0 ≤ q ∧ q ≤ 3 := by
    refine ⟨if m > 1 then m else 1, rfl, ?_, ?_⟩ <;> split <;> omega
  refine ⟨q.toNat, by omega, ?_⟩
  have c : -1000000000 ≤ q ∧ q ≤ 1000000000 := by omega
  clear m0 m1 q0 q1
  generalize ((ns.length : Nat) : Int) = W at *
  simp [ln, hm, hq, c]
theorem plain (ns : List Int) (hl : ns.length ≤ 63) : ∃ as, F_law [.t (.scr ns)] = .ret (.t (.bl true)) as := by
  obtain ⟨n, hn, z⟩ := how_often ns hl [none, none, none, none, none, none, none, none, none, none, none, none, none, none, none, none, none, none]
  have lp : ∃ e, sFor (iRngA (aCons (eRes (rBui maxF (aCons (eCon (.int 1)) (aCons (eRes (rBui minF (aCons (eCon (.int 3)) (aCons (eRes (rBui lenF (aCons (eScr 0) aNil))) aNil)))) aNil)))) aNil)) (gNm 1) eb_law_25 [some (.ow (.scrT ns)), none, none, none, none, none, none, none, none, none, none, none, none, none, none, none, none, none, none] = .nx e ∧
      ∃ (y1 y2 y3 y4 y5 y6 y7 y8 y9 y10 y11 y13 y14 y15 y16 y17 y18 : Option TreeL.Arg), e = [some (.ow (.scrT ns)), y1, y2, y3, y4, y5, y6, y7, y8, y9, y10, y11, none, y13, y14, y15, y16, y17, y18] := by
    refine sat_nx ?_
    simp only [sFor, z, RE.so]
    refine loopF_sat (fun ts e => (∀ u ∈ ts, ∃ b : Int, u = .int b ∧ 0 ≤ b ∧ b < 1000) ∧ ∃ (y1 y2 y3 y4 y5 y6 y7 y8 y9 y10 y11 y13 y14 y15 y16 y17 y18 : Option TreeL.Arg), e = [some (.ow (.scrT ns)), y1, y2, y3, y4, y5, y6, y7, y8, y9, y10, y11, none, y13, y14, y15, y16, y17, y18] ∧ NoO y5 ∧ NoO y6 ∧ NoO y7) (fun _ _ _ => rfl) (fun _ h => ?_) ?_ _ _ ⟨fun u hu => ?_, none, none, none, none, none, none, none, none, none, none, none, none, none, none, none, none, none, rfl, trivial, trivial, trivial⟩
    · obtain ⟨_, y1, y2, y3, y4, y5, y6, y7, y8, y9, y10, y11, y13, y14, y15, y16, y17, y18, rfl, _⟩ := h
      exact ⟨y1, y2, y3, y4, y5, y6, y7, y8, y9, y10, y11, y13, y14, y15, y16, y17, y18, rfl⟩
    · rintro u ts env ⟨hu, y1, y2, y3, y4, y5, y6, y7, y8, y9, y10, y11, y13, y14, y15, y16, y17, y18, rfl, n5, n6, n7⟩
      obtain ⟨b, rfl, h0, h1⟩ := hu u List.mem_cons_self
      refine ⟨_, rfl, ?_⟩
      obtain ⟨z2, z3, z4, z5, z6, z7, z8, z9, z10, z11, z13, z14, z15, z16, z17, z18, e1, m5, m6, m7⟩ := law_turn (ns := ns) (b := b) (x2 := y2) (x3 := y3) (x4 := y4) (x5 := y5) (x6 := y6) (x7 := y7) (x8 := y8) (x9 := y9) (x10 := y10) (x11 := y11) (x13 := y13) (x14 := y14) (x15 := y15) (x16 := y16) (x17 := y17) (x18 := y18) ⟨h0, h1⟩ n5 n6 n7
      simp only [L0, List.set_cons_succ, List.set_cons_zero] at e1 ⊢
      simp only [e1, SO.Sat]
      exact ⟨fun w hw => hu w (List.mem_cons_of_mem _ hw), _, _, _, _, _, _, _, _, _, _, _, _, _, _, _, _, _, rfl, m5, m6, m7⟩
    · unfold rangeL at hu
      obtain ⟨i, hi, rfl⟩ := List.mem_map.mp hu
      have := List.mem_range.mp hi
      exact ⟨_, rfl, by omega, by omega⟩
  obtain ⟨e, lp1, y1, y2, y3, y4, y5, y6, y7, y8, y9, y10, y11, y13, y14, y15, y16, y17, y18, rfl⟩ := lp
  refine ⟨[], ?_⟩
  unfold F_law fLaw
  dsimp only
  rw [show (some (Arg.ow (OS.scrT ns)) :: List.replicate (19 - 1) none : En) = [some (.ow (.scrT ns)), none, none, none, none, none, none, none, none, none, none, none, none, none, none, none, none, none, none] from rfl]
  unfold ev_law
  rw [seq_nxR lp1]
  simp
end Lk54
end
section
namespace Lk54
open PySem PySem.Spec PyProof.Rows L2 TreeL
structure Fx (P : Program) (K : PySem.W.Frag) (mg : PySem.Str → Option Value) : Prop where
  f_len : mg "len" = none
  f_min : mg "min" = none
  f_max : mg "max" = none
  f_range : mg "range" = none
  f_int : mg "int" = none
  f_abs : mg "abs" = none
  g__law_feed : mg "_law_feed" = some (.ref (He.ga K "_law_feed"))
  is_list_tuple : isiB cs ks [.lst, .tup] [.ty "list", .ty "tuple"] K = true
  f_tuple : mg "tuple" = none
  f_list : mg "list" = none
  q_Task : IsiC K (He.ga K "Task")
  q_Tasks : IsiC K (He.ga K "Tasks")
  f_isinstance : mg "isinstance" = none
  g_is_sequence : mg "is_sequence" = some (.ref (He.ga K "is_sequence"))
  is_Task : isiB cs ks [.ins 14] [.own 14] K = true
  g_Task : mg "Task" = some (.ref (He.ga K "Task"))
  f_all : mg "all" = none
  x1_InvalidTask : (fun K => xcB1 XB.value "word" (He.ga K "InvalidTask") K) K = true
  x2_InvalidTask : (fun K => xcB2 "word" PySem.Challenge.pw_stepsback_k54_tasks_refused.main.file (He.ga K "InvalidTask") K) K = true
  x3_InvalidTask : (fun K => xcB3 XB.value "word" (He.ga K "InvalidTask") K) K = true
  x4_InvalidTask : (fun K => xcB4 "word" (He.ga K "InvalidTask") K) K = true
  x5_InvalidTask : (fun K => xcB5 (He.ga K "InvalidTask") K) K = true
  g_InvalidTask : mg "InvalidTask" = some (.ref (He.ga K "InvalidTask"))
  c_Task : Cls K (He.ga K "Task")
  n_Task__name : NoAttr K (He.ga K "Task") "name"
  f_set : mg "set" = none
  is_tuple : isiB cs ks [.tup] [.ty "tuple"] K = true
  is_str : isiB cs ks [.str] [.ty "str"] K = true
  f_str : mg "str" = none
  g_is_need : mg "is_need" = some (.ref (He.ga K "is_need"))
  g_joined_with : mg "joined_with" = some (.ref (He.ga K "joined_with"))
  g_closed : mg "closed" = some (.ref (He.ga K "closed"))
  f_any : mg "any" = none
  g_has_ring : mg "has_ring" = some (.ref (He.ga K "has_ring"))
  c_Tasks : Cls K (He.ga K "Tasks")
  n_Tasks__tasks : NoAttr K (He.ga K "Tasks") "tasks"
  n_Tasks__needs : NoAttr K (He.ga K "Tasks") "needs"
  k_Tasks : Mk K (He.ga K "Tasks") (He.ma K (He.ga K "Tasks") "__init__")
  g_Tasks : mg "Tasks" = some (.ref (He.ga K "Tasks"))
  g__law_take : mg "_law_take" = some (.ref (He.ga K "_law_take"))
  g__law_pick : mg "_law_pick" = some (.ref (He.ga K "_law_pick"))
  g_StepError : mg "StepError" = some (.ref (He.ga K "StepError"))
  xi_24 : xiB cs [24] K = true
  kt_24_StepError : kitB cs [24] [24] (.own 19) K = true
  g_InvalidRow : mg "InvalidRow" = some (.ref (He.ga K "InvalidRow"))
  kt_24_InvalidRow : kitB cs [24] [] (.own 20) K = true
  xf_24_word : xfaB cs [24] "word" K = true
  em_24_24 : exmB cs [24] [24] 24 K = true
  g_BARRED : mg "BARRED" = some (.ref (He.ga K "BARRED"))
  t_BARRED : ∀ H, SqT K H (He.ga K "BARRED") ((["and", "any", "do", "if", "none", "not", "same", "send", "then", "time", "to", "wipe", "work"] : List PySem.Str).map V.str)
  s_SMALL : ∃ t, mg "SMALL" = some (.str "abcdefghijklmnopqrstuvwxyz" t)
  g_is_name : mg "is_name" = some (.ref (He.ga K "is_name"))
  is_bool : isiB cs ks [.bl] [.ty "bool"] K = true
  f_bool : mg "bool" = none
  n_Task__back : NoAttr K (He.ga K "Task") "back"
  n_Task__sure : NoAttr K (He.ga K "Task") "sure"
  k_Task : Mk K (He.ga K "Task") (He.ma K (He.ga K "Task") "__init__")
  g__law_word : mg "_law_word" = some (.ref (He.ga K "_law_word"))
  g__law_is_name : mg "_law_is_name" = some (.ref (He.ga K "_law_is_name"))
  g__law_is_bool : mg "_law_is_bool" = some (.ref (He.ga K "_law_is_bool"))
  g__law_task_due : mg "_law_task_due" = some (.ref (He.ga K "_law_task_due"))
  g__law_mixed : mg "_law_mixed" = some (.ref (He.ga K "_law_mixed"))
  g__law_some_tasks : mg "_law_some_tasks" = some (.ref (He.ga K "_law_some_tasks"))
  d_Tasks___init___0 : ∀ H, SqT K H (He.dflAt ("Tasks", some "__init__") 0 K) []
  g_law : mg "law" = some (.ref (He.ga K "law"))
  tabc : codeB (tabOf K) K = true
  xc_InvalidTask : XcAll P K XB.value "word" (He.ga K "InvalidTask")
  d__law_feed : ∃ fd, FunD K "_law_feed" "_law_feed" (defArgs (top 19)) (defBody (top 19)) (defScope (top 19)) (([] : List He.Dv).map (He.Dv.v K)) (([] : List (PySem.Str × He.Dv)).map fun q => (q.1, q.2.v K)) (He.ga K "_law_feed") fd
  d_is_sequence : ∃ fd, FunD K "is_sequence" "is_sequence" (defArgs (top 10)) (defBody (top 10)) (defScope (top 10)) (([] : List He.Dv).map (He.Dv.v K)) (([] : List (PySem.Str × He.Dv)).map fun q => (q.1, q.2.v K)) (He.ga K "is_sequence") fd
  d_is_need : ∃ fd, FunD K "is_need" "is_need" (defArgs (top 15)) (defBody (top 15)) (defScope (top 15)) (([] : List He.Dv).map (He.Dv.v K)) (([] : List (PySem.Str × He.Dv)).map fun q => (q.1, q.2.v K)) (He.ga K "is_need") fd
  d_joined_with : ∃ fd, FunD K "joined_with" "joined_with" (defArgs (top 12)) (defBody (top 12)) (defScope (top 12)) (([] : List He.Dv).map (He.Dv.v K)) (([] : List (PySem.Str × He.Dv)).map fun q => (q.1, q.2.v K)) (He.ga K "joined_with") fd
  d_closed : ∃ fd, FunD K "closed" "closed" (defArgs (top 13)) (defBody (top 13)) (defScope (top 13)) (([] : List He.Dv).map (He.Dv.v K)) (([] : List (PySem.Str × He.Dv)).map fun q => (q.1, q.2.v K)) (He.ga K "closed") fd
  d_has_ring : ∃ fd, FunD K "has_ring" "has_ring" (defArgs (top 14)) (defBody (top 14)) (defScope (top 14)) (([] : List He.Dv).map (He.Dv.v K)) (([] : List (PySem.Str × He.Dv)).map fun q => (q.1, q.2.v K)) (He.ga K "has_ring") fd
  d_Tasks___init__ : ∃ fd, FunD K "__init__" "Tasks.__init__" (defArgs (inClass (top 17) 0)) (defBody (inClass (top 17) 0)) (defScope (inClass (top 17) 0)) (([.adr (He.dflAt ("Tasks", some "__init__") 0)] : List He.Dv).map (He.Dv.v K)) (([] : List (PySem.Str × He.Dv)).map fun q => (q.1, q.2.v K)) (He.ma K (He.ga K "Tasks") "__init__") fd
  d__law_take : ∃ fd, FunD K "_law_take" "_law_take" (defArgs (top 20)) (defBody (top 20)) (defScope (top 20)) (([] : List He.Dv).map (He.Dv.v K)) (([] : List (PySem.Str × He.Dv)).map fun q => (q.1, q.2.v K)) (He.ga K "_law_take") fd
  d__law_pick : ∃ fd, FunD K "_law_pick" "_law_pick" (defArgs (top 21)) (defBody (top 21)) (defScope (top 21)) (([] : List He.Dv).map (He.Dv.v K)) (([] : List (PySem.Str × He.Dv)).map fun q => (q.1, q.2.v K)) (He.ga K "_law_pick") fd
  d__law_word : ∃ fd, FunD K "_law_word" "_law_word" (defArgs (top 24)) (defBody (top 24)) (defScope (top 24)) (([] : List He.Dv).map (He.Dv.v K)) (([] : List (PySem.Str × He.Dv)).map fun q => (q.1, q.2.v K)) (He.ga K "_law_word") fd
  d_is_name : ∃ fd, FunD K "is_name" "is_name" (defArgs (top 9)) (defBody (top 9)) (defScope (top 9)) (([] : List He.Dv).map (He.Dv.v K)) (([] : List (PySem.Str × He.Dv)).map fun q => (q.1, q.2.v K)) (He.ga K "is_name") fd
  d_Task___init__ : ∃ fd, FunD K "__init__" "Task.__init__" (defArgs (inClass (top 16) 0)) (defBody (inClass (top 16) 0)) (defScope (inClass (top 16) 0)) (([.bl true, .bl false] : List He.Dv).map (He.Dv.v K)) (([] : List (PySem.Str × He.Dv)).map fun q => (q.1, q.2.v K)) (He.ma K (He.ga K "Task") "__init__") fd
  d__law_is_name : ∃ fd, FunD K "_law_is_name" "_law_is_name" (defArgs (top 26)) (defBody (top 26)) (defScope (top 26)) (([] : List He.Dv).map (He.Dv.v K)) (([] : List (PySem.Str × He.Dv)).map fun q => (q.1, q.2.v K)) (He.ga K "_law_is_name") fd
  d__law_is_bool : ∃ fd, FunD K "_law_is_bool" "_law_is_bool" (defArgs (top 25)) (defBody (top 25)) (defScope (top 25)) (([] : List He.Dv).map (He.Dv.v K)) (([] : List (PySem.Str × He.Dv)).map fun q => (q.1, q.2.v K)) (He.ga K "_law_is_bool") fd
  d__law_task_due : ∃ fd, FunD K "_law_task_due" "_law_task_due" (defArgs (top 27)) (defBody (top 27)) (defScope (top 27)) (([] : List He.Dv).map (He.Dv.v K)) (([] : List (PySem.Str × He.Dv)).map fun q => (q.1, q.2.v K)) (He.ga K "_law_task_due") fd
  d__law_mixed : ∃ fd, FunD K "_law_mixed" "_law_mixed" (defArgs (top 22)) (defBody (top 22)) (defScope (top 22)) (([] : List He.Dv).map (He.Dv.v K)) (([] : List (PySem.Str × He.Dv)).map fun q => (q.1, q.2.v K)) (He.ga K "_law_mixed") fd
  d__law_some_tasks : ∃ fd, FunD K "_law_some_tasks" "_law_some_tasks" (defArgs (top 23)) (defBody (top 23)) (defScope (top 23)) (([] : List He.Dv).map (He.Dv.v K)) (([] : List (PySem.Str × He.Dv)).map fun q => (q.1, q.2.v K)) (He.ga K "_law_some_tasks") fd
  d_law : ∃ fd, FunD K "law" "law" (defArgs (top 28)) (defBody (top 28)) (defScope (top 28)) (([] : List He.Dv).map (He.Dv.v K)) (([] : List (PySem.Str × He.Dv)).map fun q => (q.1, q.2.v K)) (He.ga K "law") fd
section
variable {P : Program} {w : World} {K : PySem.W.Frag} {mg : PySem.Str → Option Value} {base : Heap}
def N__law_feed : List PySem.Str := ["_law_script", "_law_base", "_law_cells", "_law_cell", "_law_mixed_here"]
theorem sc__law_feed : FnScope N__law_feed ["_law_script", "_law_base"] (defScope (top 19)) := ⟨rfl, rfl, rfl, by decide +kernel, rfl, by decide +kernel, by decide +kernel⟩
theorem ok__law_feed (fx : Fx P K mg) {fd : FuncData} (D : FunD K "_law_feed" "_law_feed" (defArgs (top 19)) (defBody (top 19)) (defScope (top 19)) (([] : List He.Dv).map (He.Dv.v K)) (([] : List (PySem.Str × He.Dv)).map fun q => (q.1, q.2.v K)) (He.ga K "_law_feed") fd) : FnG P w K mg base 2 (He.ga K "_law_feed") fd ["_law_script", "_law_base"] (spF (tcN K cs) 2 Lib.F_h_feed) := by
  refine fn_tree D sc__law_feed (by decide) fun cdv A outer s H E r => ?_
  intro X hr hp tk po
  have hK : X.K = (tcN K cs).K := rfl
  have hc : X.calm = true := rfl
  have nd : X.N.Nodup := sc__law_feed.nd
  exact (tss_cons (ts_setLc (i := 2) (own := [("_law_cell", 3)]) (us := [3]) hc nd rfl rfl (npin hp) rfl (npins hp) subl (ti_any hp hK (pt_res (tr_sl hK (pt_var (pv 0)) (to_so (pt_var (pv 1))) (to_so (pt_res (tr_bin (op_addA hK) (pt_var (pv 1)) pt_int)))))) (blkOk_by (by kernel_rfl)) (fun s H C cl fp => (tg_name (i := 3) (pg_name (i := 3) nd rfl locOf) (npin hp))) (fun s H C cl fp => tts_nil) (fun s H C cl fp => (pt_res (tr_bui (x := "abs") bu_abs rfl fx.f_abs boot_abs (ta_cons (pt_res (tr_buiT (x := "int") bu_int rfl fx.f_int boot_int (ta_cons (pt_var (pv 3)) ta_nil))) ta_nil)))))
    (tss_cons (ts_set (i := 4) nd rfl locOf (npin hp) (pt_res (tr_bin (op_addA hK) pt_int (pt_res (tr_bin op_mulA pt_int (pt_var (pv 1)))))))
    (tss_cons (ts_for (xs := Lib.eb_h_feed_1) po hc (ti_any hp hK (pt_var (pv 2))) (tg_name (i := 3) (pg_name (i := 3) nd rfl locOf) (npin hp)) (tss_one (ts_set (i := 4) nd rfl locOf (npin hp) (pt_bin op_modP (pt_res (tr_buiT (x := "int") bu_int rfl fx.f_int boot_int (ta_cons (pt_res (tr_bin (op_addA hK) (pt_res (tr_bin (op_addA hK) (pt_res (tr_buiT (x := "int") bu_int rfl fx.f_int boot_int (ta_cons (pt_res (tr_bin op_mulA (pt_var (pv 4)) pt_int)) ta_nil))) (pt_bin op_modP (pt_res (tr_buiT (x := "int") bu_int rfl fx.f_int boot_int (ta_cons (pt_var (pv 3)) ta_nil))) pt_int))) pt_int)) ta_nil))) pt_int))))
    (tss_one (ts_retF (pf_box (fs := [("mixed", (eVar 4))]) (pps_cons pe_str (pf_res (tr_rev (pt_of (pf_lc (own := [("_law_cell", 3)]) (us := [3]) hc nd (npins hp) subl (ti_any hp hK (pt_var (pv 2))) (blkOk_by (by kernel_rfl)) (fun s H C cl fp => (tg_name (i := 3) (pg_name (i := 3) nd rfl locOf) (npin hp))) (fun s H C cl fp => (tts_one (tt_cmp op_geP (pt_var (pv 3)) (pt_bin op_powP pt_int pt_int) rfl))) (fun s H C cl fp => (pt_var (pv 3))))))) (pps_cons pe_str (pt_var (pv 4)) pps_nil)) (by decide +kernel) (by decide)))))))
def N_is_sequence : List PySem.Str := ["value"]
theorem sc_is_sequence : FnScope N_is_sequence ["value"] (defScope (top 10)) := ⟨rfl, rfl, rfl, by decide +kernel, rfl, by decide +kernel, by decide +kernel⟩
theorem ok_is_sequence (fx : Fx P K mg) {fd : FuncData} (D : FunD K "is_sequence" "is_sequence" (defArgs (top 10)) (defBody (top 10)) (defScope (top 10)) (([] : List He.Dv).map (He.Dv.v K)) (([] : List (PySem.Str × He.Dv)).map fun q => (q.1, q.2.v K)) (He.ga K "is_sequence") fd) : FnG P w K mg base 2 (He.ga K "is_sequence") fd ["value"] (spF (tcN K cs) 1 (Lib.F_is_sequence ks)) := by
  refine fn_tree D sc_is_sequence (by decide) fun cdv A outer s H E r => ?_
  intro X hr hp tk po
  have hK : X.K = (tcN K cs).K := rfl
  have hc : X.calm = true := rfl
  have nd : X.N.Nodup := sc_is_sequence.nd
  exact (tss_one (ts_ret hp (pt_isiT (tcl := fun _ _ _ => True) (us := [.ty "list", .ty "tuple"].map (Tgt.val (tcN K cs))) (vs := [.ty "list", .ty "tuple"].map (Tgt.v (tcN K cs))) hK (AllP.all (.cons fx.q_Task (.cons fx.q_Tasks .nil))) (tgtAll _) (lenT (by decide +kernel)) (isiB_ok fx.is_list_tuple) rfl fx.f_isinstance (pt_var (pv 0)) (pa_cons (pe_bltT (x := "list") (T := "list") (by rfl) fx.f_list boot_list) (pa_cons (pe_bltT (x := "tuple") (T := "tuple") (by rfl) fx.f_tuple boot_tuple) pa_nil)))))
def N_is_need : List PySem.Str := ["value", "names", "name"]
theorem sc_is_need : FnScope N_is_need ["value", "names"] (defScope (top 15)) := ⟨rfl, rfl, rfl, by decide +kernel, rfl, by decide +kernel, by decide +kernel⟩
theorem ok_is_need (fx : Fx P K mg) {fd : FuncData} (D : FunD K "is_need" "is_need" (defArgs (top 15)) (defBody (top 15)) (defScope (top 15)) (([] : List He.Dv).map (He.Dv.v K)) (([] : List (PySem.Str × He.Dv)).map fun q => (q.1, q.2.v K)) (He.ga K "is_need") fd) : FnG P w K mg base 2 (He.ga K "is_need") fd ["value", "names"] (spF (tcN K cs) 2 (Lib.F_is_need ks)) := by
  refine fn_tree D sc_is_need (by decide) fun cdv A outer s H E r => ?_
  intro X hr hp tk po
  have hK : X.K = (tcN K cs).K := rfl
  have hc : X.calm = true := rfl
  have nd : X.N.Nodup := sc_is_need.nd
  exact (tss_cons (ts_if (tt_w (tw_or (tt_not (tt_truth hK (pt_isi hK (AllP.all (.cons fx.q_Task (.cons fx.q_Tasks .nil))) (Tgt.cls (tcN K cs) (.ty "tuple")) (fun d b h1 h2 => kitOne_of (isiB_ok fx.is_tuple d b h1 h2)) rfl fx.f_isinstance (pt_var (pv 0)) (pe_bltT (x := "tuple") (T := "tuple") (by rfl) fx.f_tuple boot_tuple)))) (tw_or1 (tt_cmp (op_neP hK (u64 hr)) (pt_res (tr_bui (x := "len") (bu_len hK) rfl fx.f_len boot_len (ta_cons (pt_var (pv 0)) ta_nil))) pt_int rfl)))) (tss_one (ts_ret hp pt_bl)) tss_nil)
    (tss_one (ts_ret hp (pt_res (tr_bui (x := "all") (bu_all hc) rfl fx.f_all boot_all (ta_cons (pt_of (pf_lc (own := [("name", 2)]) (us := [2]) hc nd (npins hp) subl (ti_any hp hK (pt_var (pv 0))) (blkOk_by (by kernel_rfl)) (fun s H C cl fp => (tg_name (i := 2) (pg_name (i := 2) nd rfl locOf) (npin hp))) (fun s H C cl fp => tts_nil) (fun s H C cl fp => (pt_and hK (pt_isi hK (AllP.all (.cons fx.q_Task (.cons fx.q_Tasks .nil))) (Tgt.cls (tcN K cs) (.ty "str")) (fun d b h1 h2 => kitOne_of (isiB_ok fx.is_str d b h1 h2)) rfl fx.f_isinstance (pt_var (pv 2)) (pe_bltT (x := "str") (T := "str") (by rfl) fx.f_str boot_str)) (pt_one (pt_cmp (op_inP hK (u65 hr)) (pt_var (pv 2)) (pt_var (pv 1)) rfl)))))) ta_nil))))))
def N_joined_with : List PySem.Str := ["pairs", "one", "other", "behind", "first", "last"]
theorem sc_joined_with : FnScope N_joined_with ["pairs", "one", "other"] (defScope (top 12)) := ⟨rfl, rfl, rfl, by decide +kernel, rfl, by decide +kernel, by decide +kernel⟩
theorem ok_joined_with (fx : Fx P K mg) {fd : FuncData} (D : FunD K "joined_with" "joined_with" (defArgs (top 12)) (defBody (top 12)) (defScope (top 12)) (([] : List He.Dv).map (He.Dv.v K)) (([] : List (PySem.Str × He.Dv)).map fun q => (q.1, q.2.v K)) (He.ga K "joined_with") fd) : FnG P w K mg base 2 (He.ga K "joined_with") fd ["pairs", "one", "other"] (spF (tcN K cs) 3 Lib.F_joined_with) := by
  refine fn_tree D sc_joined_with (by decide) fun cdv A outer s H E r => ?_
  intro X hr hp tk po
  have hK : X.K = (tcN K cs).K := rfl
  have hc : X.calm = true := rfl
  have nd : X.N.Nodup := sc_joined_with.nd
  exact (tss_cons (ts_setLc (i := 3) (own := [("first", 4), ("last", 5)]) (us := [4, 5]) hc nd rfl rfl (npin hp) rfl (npins hp) subl (ti_any hp hK (pt_var (pv 0))) (blkOk_by (by kernel_rfl)) (fun s H C cl fp => (tg_tupL (n := 2) (by exact hK) (by exact hc) (by exact (tgs_cons (us := [4]) (ws := [5]) (tg_name (i := 4) (pg_name (i := 4) nd rfl locOf) (npin hp)) (tgs_cons (us := [5]) (ws := []) (tg_name (i := 5) (pg_name (i := 5) nd rfl locOf) (npin hp)) tgs_nil))))) (fun s H C cl fp => (tts_one (tt_cmp (op_eqP hK (u64 hr)) (pt_var (pv 4)) (pt_var (pv 2)) rfl))) (fun s H C cl fp => (pt_tup (ta_cons (pt_var (pv 1)) (ta_cons (pt_var (pv 5)) ta_nil)))))
    (tss_one (ts_ret hp (pt_res (tr_bin (op_addA hK) (pt_var (pv 3)) (pt_of (pf_lc (own := [("first", 4), ("last", 5)]) (us := [4, 5]) hc nd (npins hp) subl (ti_any hp hK (pt_var (pv 0))) (blkOk_by (by kernel_rfl)) (fun s H C cl fp => (tg_tupL (n := 2) (by exact hK) (by exact hc) (by exact (tgs_cons (us := [4]) (ws := [5]) (tg_name (i := 4) (pg_name (i := 4) nd rfl locOf) (npin hp)) (tgs_cons (us := [5]) (ws := []) (tg_name (i := 5) (pg_name (i := 5) nd rfl locOf) (npin hp)) tgs_nil))))) (fun s H C cl fp => (tts_one (tt_cmp (op_eqP hK (u64 hr)) (pt_var (pv 5)) (pt_var (pv 1)) rfl))) (fun s H C cl fp => (pt_tup (ta_cons (pt_var (pv 4)) (ta_cons (pt_var (pv 2)) ta_nil)))))))))))
def N_closed : List PySem.Str := ["pairs", "found", "pair", "waiting", "at", "one", "other"]
theorem sc_closed : FnScope N_closed ["pairs"] (defScope (top 13)) := ⟨rfl, rfl, rfl, by decide +kernel, rfl, by decide +kernel, by decide +kernel⟩
theorem ok_closed (fx : Fx P K mg) {fd : FuncData} (D : FunD K "closed" "closed" (defArgs (top 13)) (defBody (top 13)) (defScope (top 13)) (([] : List He.Dv).map (He.Dv.v K)) (([] : List (PySem.Str × He.Dv)).map fun q => (q.1, q.2.v K)) (He.ga K "closed") fd) : FnG P w K mg base 3 (He.ga K "closed") fd ["pairs"] (spF (tcN K cs) 1 Lib.F_closed) := by
  obtain ⟨fd_joined_with, D_joined_with⟩ := fx.d_joined_with
  refine fn_tree D sc_closed (by decide) fun cdv A outer s H E r => ?_
  intro X hr hp tk po
  have hK : X.K = (tcN K cs).K := rfl
  have hc : X.calm = true := rfl
  have nd : X.N.Nodup := sc_closed.nd
  have hr2 : RoomG 2 X.A := hr.mono (by decide)
  exact (tss_cons (ts_own (i := 1) nd rfl locOf (npin hp) pf_dct0T)
    (tss_cons (ts_for (xs := Lib.eb_closed_1) po hc (ti_any hp hK (pt_var (pv 0))) (tg_name (i := 2) (pg_name (i := 2) nd rfl locOf) (npin hp)) (tss_one (ts_dputT (u1 hr) (pv 1) (pt_var (pv 2)) pt_bl)))
    (tss_cons (ts_own (i := 3) nd rfl locOf (npin hp) (pf_keysT hc rfl fx.f_list (pv 1)))
    (tss_cons (ts_set (i := 4) nd rfl locOf (npin hp) pt_int)
    (tss_cons (ts_while (xs := Lib.eb_closed_3) 1000 po (tt_cmp op_ltP (pt_var (pv 4)) (pt_res (tr_bui (x := "len") (bu_len hK) rfl fx.f_len boot_len (ta_cons (pt_var (pv 3)) ta_nil))) rfl) (tss_cons (ts_asg (pt_ix hK (pt_var (pv 3)) (pt_var (pv 4)) (fun _ _ => rfl)) (tg_tupL (n := 2) hK hc (tgs_cons (tg_name (i := 5) (pg_name (i := 5) nd rfl locOf) (npin hp)) (tgs_cons (tg_name (i := 6) (pg_name (i := 6) nd rfl locOf) (npin hp)) tgs_nil))))
    (tss_cons (ts_set (i := 4) nd rfl locOf (npin hp) (pt_res (tr_bin (op_addA hK) (pt_var (pv 4)) pt_int)))
    (tss_one (ts_for (xs := Lib.eb_closed_2) po hc (ti_any hp hK (pt_res (tr_call ((ok_joined_with fx D_joined_with).mono (Nat.le_refl _)) (Fill.all (D_joined_with.bindsN fun _ _ _ _ _ _ us hl => match us, hl with | [_, _, _], _ => rfl)) hr2 tk rfl fx.g_joined_with D_joined_with.kp (ta_cons (pt_of (pf_keysT hc rfl fx.f_list (pv 1))) (ta_cons (pt_var (pv 5)) (ta_cons (pt_var (pv 6)) ta_nil)))))) (tg_name (i := 2) (pg_name (i := 2) nd rfl locOf) (npin hp)) (tss_one (ts_if (tt_cmp (op_ninDT (u1 hr)) (pt_var (pv 2)) (pt_var (pv 1)) rfl) (tss_cons (ts_dputT (u1 hr) (pv 1) (pt_var (pv 2)) pt_bl)
    (tss_one (ts_expr (pt_mut (T := "list") (id := "list.append") (name := "append") hK PySem.F.plainAttrs_list PySem.F.slot_list_append PySem.F.type_list_append mu_append (pv 3) (ta_cons (pt_var (pv 2)) ta_nil))))) tss_nil)))))))
    (tss_one (ts_ret hp (pt_var (pv 1)))))))))
def N_has_ring : List PySem.Str := ["pairs", "one", "other"]
theorem sc_has_ring : FnScope N_has_ring ["pairs"] (defScope (top 14)) := ⟨rfl, rfl, rfl, by decide +kernel, rfl, by decide +kernel, by decide +kernel⟩
theorem ok_has_ring (fx : Fx P K mg) {fd : FuncData} (D : FunD K "has_ring" "has_ring" (defArgs (top 14)) (defBody (top 14)) (defScope (top 14)) (([] : List He.Dv).map (He.Dv.v K)) (([] : List (PySem.Str × He.Dv)).map fun q => (q.1, q.2.v K)) (He.ga K "has_ring") fd) : FnG P w K mg base 4 (He.ga K "has_ring") fd ["pairs"] (spF (tcN K cs) 1 Lib.F_has_ring) := by
  obtain ⟨fd_closed, D_closed⟩ := fx.d_closed
  refine fn_tree D sc_has_ring (by decide) fun cdv A outer s H E r => ?_
  intro X hr hp tk po
  have hK : X.K = (tcN K cs).K := rfl
  have hc : X.calm = true := rfl
  have nd : X.N.Nodup := sc_has_ring.nd
  have hr3 : RoomG 3 X.A := hr.mono (by decide)
  exact (tss_one (ts_ret hp (pt_res (tr_bui (x := "any") (bu_any hc) rfl fx.f_any boot_any (ta_cons (pt_of (pf_lc (own := [("one", 1), ("other", 2)]) (us := [1, 2]) hc nd (npins hp) subl (ti_keyTF (pf_res (tr_call ((ok_closed fx D_closed).mono (Nat.le_refl _)) (Fill.all (D_closed.bindsN fun _ _ _ _ _ _ us hl => match us, hl with | [_], _ => rfl)) hr3 tk rfl fx.g_closed D_closed.kp (ta_cons (pt_var (pv 0)) ta_nil)))) (blkOk_by (by kernel_rfl)) (fun s H C cl fp => (tg_tupL (n := 2) (by exact hK) (by exact hc) (by exact (tgs_cons (us := [1]) (ws := [2]) (tg_name (i := 1) (pg_name (i := 1) nd rfl locOf) (npin hp)) (tgs_cons (us := [2]) (ws := []) (tg_name (i := 2) (pg_name (i := 2) nd rfl locOf) (npin hp)) tgs_nil))))) (fun s H C cl fp => tts_nil) (fun s H C cl fp => (pt_cmp (op_eqP hK (u64 hr)) (pt_var (pv 1)) (pt_var (pv 2)) rfl)))) ta_nil)))))
def N_Tasks___init__ : List PySem.Str := ["self", "tasks", "needs", "task", "names", "pair"]
theorem sc_Tasks___init__ : FnScope N_Tasks___init__ ["self", "tasks", "needs"] (defScope (inClass (top 17) 0)) := ⟨rfl, rfl, rfl, by decide +kernel, rfl, by decide +kernel, by decide +kernel⟩
theorem x2_Tasks___init__ (fx : Fx P K mg) {fd : FuncData} (D : FunD K "__init__" "Tasks.__init__" (defArgs (inClass (top 17) 0)) (defBody (inClass (top 17) 0)) (defScope (inClass (top 17) 0)) (([.adr (He.dflAt ("Tasks", some "__init__") 0)] : List He.Dv).map (He.Dv.v K)) (([] : List (PySem.Str × He.Dv)).map fun q => (q.1, q.2.v K)) (He.ma K (He.ga K "Tasks") "__init__") fd) : Fill (tcN K cs) K fd ["self", "tasks", "needs"] [.tup []] := Fill.of (D.binds1 2 0 (by simp) rfl (fun _ _ _ _ _ _ _ us its h1 h2 => match us, its, h1, h2 with | [_, _], [_], _, _ => ⟨_, rfl, rfl⟩)) (fun G => (repl_cons (rep_tup0 fx.d_Tasks___init___0) repl_nil))
theorem x3_Tasks___init__ (fx : Fx P K mg) {fd : FuncData} (D : FunD K "__init__" "Tasks.__init__" (defArgs (inClass (top 17) 0)) (defBody (inClass (top 17) 0)) (defScope (inClass (top 17) 0)) (([.adr (He.dflAt ("Tasks", some "__init__") 0)] : List He.Dv).map (He.Dv.v K)) (([] : List (PySem.Str × He.Dv)).map fun q => (q.1, q.2.v K)) (He.ma K (He.ga K "Tasks") "__init__") fd) : Fill (tcN K cs) K fd ["self", "tasks", "needs"] [] := Fill.of (D.binds1 3 1 (by simp) rfl (fun _ _ _ _ _ _ _ us its h1 h2 => match us, its, h1, h2 with | [_, _, _], [_], _, _ => ⟨_, rfl, rfl⟩)) (fun G => repl_nil)
theorem ok_Tasks___init__ (fx : Fx P K mg) {fd : FuncData} (D : FunD K "__init__" "Tasks.__init__" (defArgs (inClass (top 17) 0)) (defBody (inClass (top 17) 0)) (defScope (inClass (top 17) 0)) (([.adr (He.dflAt ("Tasks", some "__init__") 0)] : List He.Dv).map (He.Dv.v K)) (([] : List (PySem.Str × He.Dv)).map fun q => (q.1, q.2.v K)) (He.ma K (He.ga K "Tasks") "__init__") fd) : FnG P w K mg base 5 (He.ma K (He.ga K "Tasks") "__init__") fd ["self", "tasks", "needs"] (spF (tcN K cs) 3 (Lib.F_Tasks___init__ ks)) := by
  obtain ⟨fd_is_sequence, D_is_sequence⟩ := fx.d_is_sequence
  obtain ⟨fd_is_need, D_is_need⟩ := fx.d_is_need
  obtain ⟨fd_has_ring, D_has_ring⟩ := fx.d_has_ring
  obtain ⟨cd_InvalidTask, xc_InvalidTask⟩ := fx.xc_InvalidTask.x
  refine fn_tree D sc_Tasks___init__ (by decide) fun cdv A outer s H E r => ?_
  intro X hr hp tk po
  have hK : X.K = (tcN K cs).K := rfl
  have hc : X.calm = true := rfl
  have nd : X.N.Nodup := sc_Tasks___init__.nd
  have hr2 : RoomG 2 X.A := hr.mono (by decide)
  have hr4 : RoomG 4 X.A := hr.mono (by decide)
  exact (tss_cons (ts_if (tt_w (tw_or (tt_not (tt_truth hK (pt_res (tr_call ((ok_is_sequence fx D_is_sequence).mono (Nat.le_refl _)) (Fill.all (D_is_sequence.bindsN fun _ _ _ _ _ _ us hl => match us, hl with | [_], _ => rfl)) hr2 tk rfl fx.g_is_sequence D_is_sequence.kp (ta_cons (pt_var (pv 1)) ta_nil))))) (tw_or1 (tt_not (tt_truth hK (pt_res (tr_bui (x := "all") (bu_all hc) rfl fx.f_all boot_all (ta_cons (pt_of (pf_lc (own := [("task", 3)]) (us := [3]) hc nd (npins hp) subl (ti_any hp hK (pt_var (pv 1))) (blkOk_by (by kernel_rfl)) (fun s H C cl fp => (tg_name (i := 3) (pg_name (i := 3) nd rfl locOf) (npin hp))) (fun s H C cl fp => tts_nil) (fun s H C cl fp => (pt_isi hK (AllP.all (.cons fx.q_Task (.cons fx.q_Tasks .nil))) (Tgt.cls (tcN K cs) (.own 14)) (fun d b h1 h2 => kitOne_of (isiB_ok fx.is_Task d b h1 h2)) rfl fx.f_isinstance (pt_var (pv 3)) (pe_glob (v := .ref (He.ga K "Task")) (u := .ref (He.ga K "Task")) (by rfl) fx.g_Task rfl))))) ta_nil)))))))) (tss_one (ts_raise xc_InvalidTask fx.xc_InvalidTask.k1 fx.xc_InvalidTask.k2 fx.xc_InvalidTask.k3 fx.xc_InvalidTask.k4 (hr.mono (by omega)) hc tk rfl fx.g_InvalidTask pt_str)) tss_nil)
    (tss_cons (ts_set (i := 4) nd rfl locOf (npin hp) (pt_of (pf_lc (own := [("task", 3)]) (us := [3]) hc nd (npins hp) subl (ti_any hp hK (pt_var (pv 1))) (blkOk_by (by kernel_rfl)) (fun s H C cl fp => (tg_name (i := 3) (pg_name (i := 3) nd rfl locOf) (npin hp))) (fun s H C cl fp => tts_nil) (fun s H C cl fp => (pt_fl (flAll (.cons (fun z => absurd z (by decide)) (.cons (fun _ => ⟨fx.c_Task, fx.n_Task__name⟩) .nil))) (pt_var (pv 3)))))))
    (tss_cons (ts_if (tt_cmp op_ltP (pt_lenSet hK hc rfl fx.f_len rfl fx.f_set (pt_var (pv 4))) (pt_res (tr_bui (x := "len") (bu_len hK) rfl fx.f_len boot_len (ta_cons (pt_var (pv 4)) ta_nil))) rfl) (tss_one (ts_raise xc_InvalidTask fx.xc_InvalidTask.k1 fx.xc_InvalidTask.k2 fx.xc_InvalidTask.k3 fx.xc_InvalidTask.k4 (hr.mono (by omega)) hc tk rfl fx.g_InvalidTask pt_str)) tss_nil)
    (tss_cons (ts_if (tt_w (tw_or (tt_not (tt_truth hK (pt_res (tr_call ((ok_is_sequence fx D_is_sequence).mono (Nat.le_refl _)) (Fill.all (D_is_sequence.bindsN fun _ _ _ _ _ _ us hl => match us, hl with | [_], _ => rfl)) hr2 tk rfl fx.g_is_sequence D_is_sequence.kp (ta_cons (pt_var (pv 2)) ta_nil))))) (tw_or1 (tt_not (tt_truth hK (pt_res (tr_bui (x := "all") (bu_all hc) rfl fx.f_all boot_all (ta_cons (pt_of (pf_lc (own := [("pair", 5)]) (us := [5]) hc nd (npins hp) subl (ti_any hp hK (pt_var (pv 2))) (blkOk_by (by kernel_rfl)) (fun s H C cl fp => (tg_name (i := 5) (pg_name (i := 5) nd rfl locOf) (npin hp))) (fun s H C cl fp => tts_nil) (fun s H C cl fp => (pt_res (tr_call ((ok_is_need fx D_is_need).mono (Nat.le_refl _)) (Fill.all (D_is_need.bindsN fun _ _ _ _ _ _ us hl => match us, hl with | [_, _], _ => rfl)) hr2 takesW0 rfl fx.g_is_need D_is_need.kp (ta_cons (pt_var (pv 5)) (ta_cons (pt_var (pv 4)) ta_nil))))))) ta_nil)))))))) (tss_one (ts_raise xc_InvalidTask fx.xc_InvalidTask.k1 fx.xc_InvalidTask.k2 fx.xc_InvalidTask.k3 fx.xc_InvalidTask.k4 (hr.mono (by omega)) hc tk rfl fx.g_InvalidTask pt_str)) tss_nil)
    (tss_cons (ts_if (tt_truth hK (pt_res (tr_call ((ok_has_ring fx D_has_ring).mono (Nat.le_refl _)) (Fill.all (D_has_ring.bindsN fun _ _ _ _ _ _ us hl => match us, hl with | [_], _ => rfl)) hr4 tk rfl fx.g_has_ring D_has_ring.kp (ta_cons (pt_var (pv 2)) ta_nil)))) (tss_one (ts_raise xc_InvalidTask fx.xc_InvalidTask.k1 fx.xc_InvalidTask.k2 fx.xc_InvalidTask.k3 fx.xc_InvalidTask.k4 (hr.mono (by omega)) hc tk rfl fx.g_InvalidTask pt_str)) tss_nil)
    (tss_cons (ts_fld (k := 15) fx.c_Tasks fx.n_Tasks__tasks (pv 0) (pt_res (tr_buiT (x := "tuple") (bu_tuple hK) rfl fx.f_tuple boot_tuple (ta_cons (pt_var (pv 1)) ta_nil))))
    (tss_one (ts_fld (k := 15) fx.c_Tasks fx.n_Tasks__needs (pv 0) (pt_res (tr_buiT (x := "tuple") (bu_tuple hK) rfl fx.f_tuple boot_tuple (ta_cons (pt_var (pv 2)) ta_nil)))))))))))
def N__law_take : List PySem.Str := ["_law_box", "_law_wide", "_law_great", "_law_cell"]
theorem sc__law_take : FnScope N__law_take ["_law_box", "_law_wide"] (defScope (top 20)) := ⟨rfl, rfl, rfl, by decide +kernel, rfl, by decide +kernel, by decide +kernel⟩
theorem ok__law_take (fx : Fx P K mg) {fd : FuncData} (D : FunD K "_law_take" "_law_take" (defArgs (top 20)) (defBody (top 20)) (defScope (top 20)) (([] : List He.Dv).map (He.Dv.v K)) (([] : List (PySem.Str × He.Dv)).map fun q => (q.1, q.2.v K)) (He.ga K "_law_take") fd) : FnG P w K mg base 2 (He.ga K "_law_take") fd ["_law_box", "_law_wide"] (spF (tcN K cs) 2 Lib.F_h_take) := by
  refine fn_tree D sc__law_take (by decide) fun cdv A outer s H E r => ?_
  intro X hr hp tk po
  have hK : X.K = (tcN K cs).K := rfl
  have hc : X.calm = true := rfl
  have nd : X.N.Nodup := sc__law_take.nd
  exact (tss_ali (i := 0) (j := 2) (u1 hr) nd rfl locOf (npin hp) (inpin hp) (pv 0) (fun q AL => by
    have hp : (Ref.ali r 2 q).pins.map Prod.fst = [0, 1, 2] := ali_pins hp
    exact (tss_cons (ts_while (xs := Lib.eb_h_take_1) 1000 po (tt_w (tw_and (tt_alCmp AL (op_neP hK (u64 hr)) (pv 2) (pt_lst ta_nil) rfl) (tw_and1 (tt_cmp (op_eqP hK (u64 hr)) (pt_alIx AL hK (pv 2) (pt_un un_negP pt_int) (fun _ _ => rfl)) pt_int rfl)))) (tss_one (ts_expr (pt_alPop AL (pv 2)))))
    (tss_cons (ts_if (tt_alCmp AL (op_neP hK (u64 hr)) (pv 2) (pt_lst ta_nil) rfl) (tss_cons (ts_set (i := 3) nd rfl locOf (npin hp) (pt_alPop AL (pv 2)))
    (tss_cons (ts_expr (pt_alApp AL (pv 2) (ta_cons (pt_bin op_fdivP (pt_var (pv 3)) (pt_var (pv 1))) ta_nil)))
    (tss_one (ts_ret hp (pt_bin op_modP (pt_res (tr_buiT (x := "int") bu_int rfl fx.f_int boot_int (ta_cons (pt_var (pv 3)) ta_nil))) (pt_var (pv 1))))))) tss_nil)
    (tss_cons (ts_bput (u1 hr) (pv 0) (pt_bin op_modP (pt_res (tr_buiT (x := "int") bu_int rfl fx.f_int boot_int (ta_cons (pt_res (tr_bin (op_addA hK) (pt_res (tr_bin op_mulA (pt_bget (u1 hr) (pv 0)) pt_int)) pt_int)) ta_nil))) pt_int))
    (tss_one (ts_ret hp (pt_bin op_modP (pt_res (tr_buiT (x := "int") bu_int rfl fx.f_int boot_int (ta_cons (pt_bin op_fdivP (pt_bget (u1 hr) (pv 0)) pt_int) ta_nil))) (pt_var (pv 1))))))))))
def N__law_pick : List PySem.Str := ["_law_box", "_law_some"]
theorem sc__law_pick : FnScope N__law_pick ["_law_box", "_law_some"] (defScope (top 21)) := ⟨rfl, rfl, rfl, by decide +kernel, rfl, by decide +kernel, by decide +kernel⟩
theorem ok__law_pick (fx : Fx P K mg) {fd : FuncData} (D : FunD K "_law_pick" "_law_pick" (defArgs (top 21)) (defBody (top 21)) (defScope (top 21)) (([] : List He.Dv).map (He.Dv.v K)) (([] : List (PySem.Str × He.Dv)).map fun q => (q.1, q.2.v K)) (He.ga K "_law_pick") fd) : FnG P w K mg base 3 (He.ga K "_law_pick") fd ["_law_box", "_law_some"] (spF (tcN K cs) 2 Lib.F_h_pick_b) := by
  obtain ⟨fd__law_take, D__law_take⟩ := fx.d__law_take
  refine fn_tree D sc__law_pick (by decide) fun cdv A outer s H E r => ?_
  intro X hr hp tk po
  have hK : X.K = (tcN K cs).K := rfl
  have hc : X.calm = true := rfl
  have nd : X.N.Nodup := sc__law_pick.nd
  have hr2 : RoomG 2 X.A := hr.mono (by decide)
  exact (tss_one (ts_ret hp (pt_ix hK (pt_var (pv 1)) (pt_res (tr_call ((ok__law_take fx D__law_take).mono (Nat.le_refl _)) (Fill.all (D__law_take.bindsN fun _ _ _ _ _ _ us hl => match us, hl with | [_, _], _ => rfl)) hr2 tk rfl fx.g__law_take D__law_take.kp (ta_cons (pt_var (pv 0)) (ta_cons (pt_res (tr_bui (x := "len") (bu_len hK) rfl fx.f_len boot_len (ta_cons (pt_var (pv 1)) ta_nil))) ta_nil)))) (fun _ _ => rfl))))
def N__law_word : List PySem.Str := ["_law_work", "_law_found", "e"]
theorem sc__law_word : FnScope N__law_word ["_law_work"] (defScope (top 24)) := ⟨rfl, rfl, rfl, by decide +kernel, rfl, by decide +kernel, by decide +kernel⟩
theorem tb__law_word_ok (fx : Fx P K mg) {f : Addr} {cdv : Value} {A : Around} {outer : List Env} {s : Shared} {H : Hp} {E : XK} {r : Ref} {w' : EvR} : let X := cxOf (L2.CX P w) P w K mg base N__law_word "_law_word" (defScope (top 24)) f cdv A outer s H E; RoomG 1 X.A → r.pins.map Prod.fst = [0] → Takes X (fun cls d _ H' => E cls d H') → PassesOwn (model X.prog X.w) X.A X.env X.xe →
    (∀ (pn : List (Addr × Obj)) (xe : Value → Shared → Prop) (W' : WX) (p1 p2 : Pos), Takes (X.tr pn xe) W' → PE (X.tr pn xe) (.Call (.Name "_law_work" p1) [] [] p2) (TRof (tcN K cs) r W' w')) → PSs X (defBody (top 24)) (TSof (tcN K cs) r (fun cls d _ H' => E cls d H') (tb__law_word w')) := by
  intro X hr hp tk po ask
  have hK : X.K = (tcN K cs).K := rfl
  have hc : X.calm = true := rfl
  have nd : X.N.Nodup := sc__law_word.nd
  exact (tss_cons (ts_set (i := 1) nd rfl locOf (npin hp) pt_str)
    (tss_cons (ts_tryT (ps := [0]) (i := 2) (kx := 24) rfl rfl nd rfl rfl ⟨rfl, by decide +kernel, .inl fx.g_InvalidTask⟩ tk rfl hp rfl rfl (exmB_ok fx.em_24_24) (fun W' pn' xe tk po => (tss_one (ts_expr (pt_res (ask _ _ _ _ _ tk))))) (fun a oe cls d pn' y r' hz hf hx hm hp hkk => (tss_one (ts_set (i := 1) nd rfl locOf (npin hp) (pt_if (tt_w (tw_and (tt_truth hK (pt_xi (ks := [24]) hz hf hx hm hkk (xiB_ok fx.xi_24) (Tgt.cls (tcN K cs) (.own 19)) (kitB_ok fx.kt_24_StepError) rfl fx.f_isinstance (pv 2) (pe_glob (v := .ref (He.ga K "StepError")) (u := .ref (He.ga K "StepError")) (by rfl) fx.g_StepError rfl))) (tw_and1 (tt_not (tt_truth hK (pt_xi (ks := [24]) hz hf hx hm hkk (xiB_ok fx.xi_24) (Tgt.cls (tcN K cs) (.own 20)) (kitB_ok fx.kt_24_InvalidRow) rfl fx.f_isinstance (pv 2) (pe_glob (v := .ref (He.ga K "InvalidRow")) (u := .ref (He.ga K "InvalidRow")) (by rfl) fx.g_InvalidRow rfl))))))) (pt_xf (ks := [24]) hz hf hx hm hkk (xfaB_ok fx.xf_24_word) (pv 2)) pt_str)))))
    (tss_one (ts_ret hp (pt_var (pv 1))))))
def N_is_name : List PySem.Str := ["value", "sign"]
theorem sc_is_name : FnScope N_is_name ["value"] (defScope (top 9)) := ⟨rfl, rfl, rfl, by decide +kernel, rfl, by decide +kernel, by decide +kernel⟩
theorem ok_is_name (fx : Fx P K mg) {fd : FuncData} (D : FunD K "is_name" "is_name" (defArgs (top 9)) (defBody (top 9)) (defScope (top 9)) (([] : List He.Dv).map (He.Dv.v K)) (([] : List (PySem.Str × He.Dv)).map fun q => (q.1, q.2.v K)) (He.ga K "is_name") fd) : FnG P w K mg base 2 (He.ga K "is_name") fd ["value"] (spF (tcN K cs) 1 (Lib.F_is_name ks)) := by
  refine fn_tree D sc_is_name (by decide) fun cdv A outer s H E r => ?_
  intro X hr hp tk po
  have hK : X.K = (tcN K cs).K := rfl
  have hc : X.calm = true := rfl
  have nd : X.N.Nodup := sc_is_name.nd
  exact (tss_cons (ts_if (tt_w (tw_or (tt_not (tt_truth hK (pt_isi hK (AllP.all (.cons fx.q_Task (.cons fx.q_Tasks .nil))) (Tgt.cls (tcN K cs) (.ty "str")) (fun d b h1 h2 => kitOne_of (isiB_ok fx.is_str d b h1 h2)) rfl fx.f_isinstance (pt_var (pv 0)) (pe_bltT (x := "str") (T := "str") (by rfl) fx.f_str boot_str)))) (tw_or (tt_not (tt_chain op_leP op_leP pt_int (pt_res (tr_bui (x := "len") (bu_len hK) rfl fx.f_len boot_len (ta_cons (pt_var (pv 0)) ta_nil))) pt_int)) (tw_or1 (tt_cmp (op_inP hK (u65 hr)) (pt_var (pv 0)) (pt_gref rfl fx.g_BARRED (krep_tupS fx.t_BARRED (strsG (by decide +kernel)))) rfl))))) (tss_one (ts_ret hp pt_bl)) tss_nil)
    (tss_one (ts_ret hp (pt_res (tr_bui (x := "all") (bu_all hc) rfl fx.f_all boot_all (ta_cons (pt_of (pf_lc (own := [("sign", 1)]) (us := [1]) hc nd (npins hp) subl (ti_any hp hK (pt_var (pv 0))) (blkOk_by (by kernel_rfl)) (fun s H C cl fp => (tg_name (i := 1) (pg_name (i := 1) nd rfl locOf) (npin hp))) (fun s H C cl fp => tts_nil) (fun s H C cl fp => (pt_cmp (op_inP hK (u65 hr)) (pt_var (pv 1)) (pt_gstr rfl fx.s_SMALL (strG_by (by decide +kernel))) rfl)))) ta_nil))))))
def N_Task___init__ : List PySem.Str := ["self", "name", "back", "sure"]
theorem sc_Task___init__ : FnScope N_Task___init__ ["self", "name", "back", "sure"] (defScope (inClass (top 16) 0)) := ⟨rfl, rfl, rfl, by decide +kernel, rfl, by decide +kernel, by decide +kernel⟩
theorem x2_Task___init__ (fx : Fx P K mg) {fd : FuncData} (D : FunD K "__init__" "Task.__init__" (defArgs (inClass (top 16) 0)) (defBody (inClass (top 16) 0)) (defScope (inClass (top 16) 0)) (([.bl true, .bl false] : List He.Dv).map (He.Dv.v K)) (([] : List (PySem.Str × He.Dv)).map fun q => (q.1, q.2.v K)) (He.ma K (He.ga K "Task") "__init__") fd) : Fill (tcN K cs) K fd ["self", "name", "back", "sure"] [.bl true, .bl false] := Fill.of (D.binds1 2 0 (by simp) rfl (fun _ _ _ _ _ _ _ us its h1 h2 => match us, its, h1, h2 with | [_, _], [_, _], _, _ => ⟨_, rfl, rfl⟩)) (fun G => (repl_cons rep_blC (repl_cons rep_blC repl_nil)))
theorem x3_Task___init__ (fx : Fx P K mg) {fd : FuncData} (D : FunD K "__init__" "Task.__init__" (defArgs (inClass (top 16) 0)) (defBody (inClass (top 16) 0)) (defScope (inClass (top 16) 0)) (([.bl true, .bl false] : List He.Dv).map (He.Dv.v K)) (([] : List (PySem.Str × He.Dv)).map fun q => (q.1, q.2.v K)) (He.ma K (He.ga K "Task") "__init__") fd) : Fill (tcN K cs) K fd ["self", "name", "back", "sure"] [.bl false] := Fill.of (D.binds1 3 1 (by simp) rfl (fun _ _ _ _ _ _ _ us its h1 h2 => match us, its, h1, h2 with | [_, _, _], [_, _], _, _ => ⟨_, rfl, rfl⟩)) (fun G => (repl_cons rep_blC repl_nil))
theorem x4_Task___init__ (fx : Fx P K mg) {fd : FuncData} (D : FunD K "__init__" "Task.__init__" (defArgs (inClass (top 16) 0)) (defBody (inClass (top 16) 0)) (defScope (inClass (top 16) 0)) (([.bl true, .bl false] : List He.Dv).map (He.Dv.v K)) (([] : List (PySem.Str × He.Dv)).map fun q => (q.1, q.2.v K)) (He.ma K (He.ga K "Task") "__init__") fd) : Fill (tcN K cs) K fd ["self", "name", "back", "sure"] [] := Fill.of (D.binds1 4 2 (by simp) rfl (fun _ _ _ _ _ _ _ us its h1 h2 => match us, its, h1, h2 with | [_, _, _, _], [_, _], _, _ => ⟨_, rfl, rfl⟩)) (fun G => repl_nil)
theorem ok_Task___init__ (fx : Fx P K mg) {fd : FuncData} (D : FunD K "__init__" "Task.__init__" (defArgs (inClass (top 16) 0)) (defBody (inClass (top 16) 0)) (defScope (inClass (top 16) 0)) (([.bl true, .bl false] : List He.Dv).map (He.Dv.v K)) (([] : List (PySem.Str × He.Dv)).map fun q => (q.1, q.2.v K)) (He.ma K (He.ga K "Task") "__init__") fd) : FnG P w K mg base 3 (He.ma K (He.ga K "Task") "__init__") fd ["self", "name", "back", "sure"] (spF (tcN K cs) 4 (Lib.F_Task___init__ ks)) := by
  obtain ⟨fd_is_name, D_is_name⟩ := fx.d_is_name
  obtain ⟨cd_InvalidTask, xc_InvalidTask⟩ := fx.xc_InvalidTask.x
  refine fn_tree D sc_Task___init__ (by decide) fun cdv A outer s H E r => ?_
  intro X hr hp tk po
  have hK : X.K = (tcN K cs).K := rfl
  have hc : X.calm = true := rfl
  have nd : X.N.Nodup := sc_Task___init__.nd
  have hr2 : RoomG 2 X.A := hr.mono (by decide)
  exact (tss_cons (ts_if (tt_not (tt_truth hK (pt_res (tr_call ((ok_is_name fx D_is_name).mono (Nat.le_refl _)) (Fill.all (D_is_name.bindsN fun _ _ _ _ _ _ us hl => match us, hl with | [_], _ => rfl)) hr2 tk rfl fx.g_is_name D_is_name.kp (ta_cons (pt_var (pv 1)) ta_nil))))) (tss_one (ts_raise xc_InvalidTask fx.xc_InvalidTask.k1 fx.xc_InvalidTask.k2 fx.xc_InvalidTask.k3 fx.xc_InvalidTask.k4 (hr.mono (by omega)) hc tk rfl fx.g_InvalidTask pt_str)) tss_nil)
    (tss_cons (ts_if (tt_not (tt_truth hK (pt_isi hK (AllP.all (.cons fx.q_Task (.cons fx.q_Tasks .nil))) (Tgt.cls (tcN K cs) (.ty "bool")) (fun d b h1 h2 => kitOne_of (isiB_ok fx.is_bool d b h1 h2)) rfl fx.f_isinstance (pt_var (pv 2)) (pe_bltT (x := "bool") (T := "bool") (by rfl) fx.f_bool boot_bool)))) (tss_one (ts_raise xc_InvalidTask fx.xc_InvalidTask.k1 fx.xc_InvalidTask.k2 fx.xc_InvalidTask.k3 fx.xc_InvalidTask.k4 (hr.mono (by omega)) hc tk rfl fx.g_InvalidTask pt_str)) tss_nil)
    (tss_cons (ts_if (tt_not (tt_truth hK (pt_isi hK (AllP.all (.cons fx.q_Task (.cons fx.q_Tasks .nil))) (Tgt.cls (tcN K cs) (.ty "bool")) (fun d b h1 h2 => kitOne_of (isiB_ok fx.is_bool d b h1 h2)) rfl fx.f_isinstance (pt_var (pv 3)) (pe_bltT (x := "bool") (T := "bool") (by rfl) fx.f_bool boot_bool)))) (tss_one (ts_raise xc_InvalidTask fx.xc_InvalidTask.k1 fx.xc_InvalidTask.k2 fx.xc_InvalidTask.k3 fx.xc_InvalidTask.k4 (hr.mono (by omega)) hc tk rfl fx.g_InvalidTask pt_str)) tss_nil)
    (tss_cons (ts_fld (k := 14) fx.c_Task fx.n_Task__name (pv 0) (pt_var (pv 1)))
    (tss_cons (ts_fld (k := 14) fx.c_Task fx.n_Task__back (pv 0) (pt_var (pv 2)))
    (tss_one (ts_fld (k := 14) fx.c_Task fx.n_Task__sure (pv 0) (pt_var (pv 3)))))))))
def N__law_is_name : List PySem.Str := ["_law_value", "_law_barred", "_law_sign"]
theorem sc__law_is_name : FnScope N__law_is_name ["_law_value"] (defScope (top 26)) := ⟨rfl, rfl, rfl, by decide +kernel, rfl, by decide +kernel, by decide +kernel⟩
theorem ok__law_is_name (fx : Fx P K mg) {fd : FuncData} (D : FunD K "_law_is_name" "_law_is_name" (defArgs (top 26)) (defBody (top 26)) (defScope (top 26)) (([] : List He.Dv).map (He.Dv.v K)) (([] : List (PySem.Str × He.Dv)).map fun q => (q.1, q.2.v K)) (He.ga K "_law_is_name") fd) : FnG P w K mg base 2 (He.ga K "_law_is_name") fd ["_law_value"] (spF (tcN K cs) 1 (Lib.F_h_is_name_d ks)) := by
  refine fn_tree D sc__law_is_name (by decide) fun cdv A outer s H E r => ?_
  intro X hr hp tk po
  have hK : X.K = (tcN K cs).K := rfl
  have hc : X.calm = true := rfl
  have nd : X.N.Nodup := sc__law_is_name.nd
  exact (tss_cons (ts_set (i := 1) nd rfl locOf (npin hp) (pt_lst (ta_cons pt_str (ta_cons pt_str (ta_cons pt_str (ta_cons pt_str (ta_cons pt_str (ta_cons pt_str (ta_cons pt_str (ta_cons pt_str (ta_cons pt_str (ta_cons pt_str (ta_cons pt_str (ta_cons pt_str (ta_cons pt_str ta_nil)))))))))))))))
    (tss_cons (ts_if (tt_w (tw_or (tt_not (tt_truth hK (pt_isi hK (AllP.all (.cons fx.q_Task (.cons fx.q_Tasks .nil))) (Tgt.cls (tcN K cs) (.ty "str")) (fun d b h1 h2 => kitOne_of (isiB_ok fx.is_str d b h1 h2)) rfl fx.f_isinstance (pt_var (pv 0)) (pe_bltT (x := "str") (T := "str") (by rfl) fx.f_str boot_str)))) (tw_or (tt_not (tt_chain op_ltP op_ltP pt_int (pt_res (tr_bui (x := "len") (bu_len hK) rfl fx.f_len boot_len (ta_cons (pt_var (pv 0)) ta_nil))) pt_int)) (tw_or1 (tt_cmp (op_inP hK (u65 hr)) (pt_var (pv 0)) (pt_var (pv 1)) rfl))))) (tss_one (ts_ret hp pt_bl)) tss_nil)
    (tss_one (ts_ret hp (pt_cmp (op_eqP hK (u64 hr)) (pt_of (pf_lc (own := [("_law_sign", 2)]) (us := [2]) hc nd (npins hp) subl (ti_any hp hK (pt_var (pv 0))) (blkOk_by (by kernel_rfl)) (fun s H C cl fp => (tg_name (i := 2) (pg_name (i := 2) nd rfl locOf) (npin hp))) (fun s H C cl fp => (tts_one (tt_cmp (op_ninP hK (u65 hr)) (pt_var (pv 2)) pt_str rfl))) (fun s H C cl fp => (pt_var (pv 2))))) (pt_lst ta_nil) rfl)))))
def N__law_is_bool : List PySem.Str := ["_law_value"]
theorem sc__law_is_bool : FnScope N__law_is_bool ["_law_value"] (defScope (top 25)) := ⟨rfl, rfl, rfl, by decide +kernel, rfl, by decide +kernel, by decide +kernel⟩
theorem ok__law_is_bool (fx : Fx P K mg) {fd : FuncData} (D : FunD K "_law_is_bool" "_law_is_bool" (defArgs (top 25)) (defBody (top 25)) (defScope (top 25)) (([] : List He.Dv).map (He.Dv.v K)) (([] : List (PySem.Str × He.Dv)).map fun q => (q.1, q.2.v K)) (He.ga K "_law_is_bool") fd) : FnG P w K mg base 2 (He.ga K "_law_is_bool") fd ["_law_value"] (spF (tcN K cs) 1 (Lib.F_h_is_bool ks)) := by
  refine fn_tree D sc__law_is_bool (by decide) fun cdv A outer s H E r => ?_
  intro X hr hp tk po
  have hK : X.K = (tcN K cs).K := rfl
  have hc : X.calm = true := rfl
  have nd : X.N.Nodup := sc__law_is_bool.nd
  exact (tss_one (ts_ret hp (pt_isi hK (AllP.all (.cons fx.q_Task (.cons fx.q_Tasks .nil))) (Tgt.cls (tcN K cs) (.ty "bool")) (fun d b h1 h2 => kitOne_of (isiB_ok fx.is_bool d b h1 h2)) rfl fx.f_isinstance (pt_var (pv 0)) (pe_bltT (x := "bool") (T := "bool") (by rfl) fx.f_bool boot_bool))))
def N__law_task_due : List PySem.Str := ["_law_name", "_law_back", "_law_sure"]
theorem sc__law_task_due : FnScope N__law_task_due ["_law_name", "_law_back", "_law_sure"] (defScope (top 27)) := ⟨rfl, rfl, rfl, by decide +kernel, rfl, by decide +kernel, by decide +kernel⟩
theorem ok__law_task_due (fx : Fx P K mg) {fd : FuncData} (D : FunD K "_law_task_due" "_law_task_due" (defArgs (top 27)) (defBody (top 27)) (defScope (top 27)) (([] : List He.Dv).map (He.Dv.v K)) (([] : List (PySem.Str × He.Dv)).map fun q => (q.1, q.2.v K)) (He.ga K "_law_task_due") fd) : FnG P w K mg base 3 (He.ga K "_law_task_due") fd ["_law_name", "_law_back", "_law_sure"] (spF (tcN K cs) 3 (Lib.F_h_task_due ks)) := by
  obtain ⟨fd__law_is_name, D__law_is_name⟩ := fx.d__law_is_name
  obtain ⟨fd__law_is_bool, D__law_is_bool⟩ := fx.d__law_is_bool
  refine fn_tree D sc__law_task_due (by decide) fun cdv A outer s H E r => ?_
  intro X hr hp tk po
  have hK : X.K = (tcN K cs).K := rfl
  have hc : X.calm = true := rfl
  have nd : X.N.Nodup := sc__law_task_due.nd
  have hr2 : RoomG 2 X.A := hr.mono (by decide)
  exact (tss_cons (ts_if (tt_not (tt_truth hK (pt_res (tr_call ((ok__law_is_name fx D__law_is_name).mono (Nat.le_refl _)) (Fill.all (D__law_is_name.bindsN fun _ _ _ _ _ _ us hl => match us, hl with | [_], _ => rfl)) hr2 tk rfl fx.g__law_is_name D__law_is_name.kp (ta_cons (pt_var (pv 0)) ta_nil))))) (tss_one (ts_ret hp pt_str)) tss_nil)
    (tss_cons (ts_if (tt_not (tt_truth hK (pt_res (tr_call ((ok__law_is_bool fx D__law_is_bool).mono (Nat.le_refl _)) (Fill.all (D__law_is_bool.bindsN fun _ _ _ _ _ _ us hl => match us, hl with | [_], _ => rfl)) hr2 tk rfl fx.g__law_is_bool D__law_is_bool.kp (ta_cons (pt_var (pv 1)) ta_nil))))) (tss_one (ts_ret hp pt_str)) tss_nil)
    (tss_one (ts_ret hp (pt_if (tt_truth hK (pt_res (tr_call ((ok__law_is_bool fx D__law_is_bool).mono (Nat.le_refl _)) (Fill.all (D__law_is_bool.bindsN fun _ _ _ _ _ _ us hl => match us, hl with | [_], _ => rfl)) hr2 tk rfl fx.g__law_is_bool D__law_is_bool.kp (ta_cons (pt_var (pv 2)) ta_nil)))) pt_str pt_str)))))
def N__law_mixed : List PySem.Str := ["_law_box", "_law_some", "_law_left", "_law_found"]
theorem sc__law_mixed : FnScope N__law_mixed ["_law_box", "_law_some"] (defScope (top 22)) := ⟨rfl, rfl, rfl, by decide +kernel, rfl, by decide +kernel, by decide +kernel⟩
theorem ok__law_mixed (fx : Fx P K mg) {fd : FuncData} (D : FunD K "_law_mixed" "_law_mixed" (defArgs (top 22)) (defBody (top 22)) (defScope (top 22)) (([] : List He.Dv).map (He.Dv.v K)) (([] : List (PySem.Str × He.Dv)).map fun q => (q.1, q.2.v K)) (He.ga K "_law_mixed") fd) : FnG P w K mg base 3 (He.ga K "_law_mixed") fd ["_law_box", "_law_some"] (spF (tcN K cs) 2 Lib.F_h_mixed_b) := by
  obtain ⟨fd__law_take, D__law_take⟩ := fx.d__law_take
  refine fn_tree D sc__law_mixed (by decide) fun cdv A outer s H E r => ?_
  intro X hr hp tk po
  have hK : X.K = (tcN K cs).K := rfl
  have hc : X.calm = true := rfl
  have nd : X.N.Nodup := sc__law_mixed.nd
  have hr2 : RoomG 2 X.A := hr.mono (by decide)
  exact (tss_cons (ts_par (i := 2) (j := 3) hc nd rfl rfl (by decide) rfl rfl (npin hp) (npin hp) (tb_cons (tr_own (pf_res (tr_buiT (x := "list") (bu_list hK) rfl fx.f_list boot_list (ta_cons (pt_var (pv 1)) ta_nil)))) (tb_cons (tr_own (pf_lst ta_nil)) tb_nil)))
    (tss_cons (ts_while (xs := Lib.eb_h_mixed_b_1) 1000 po (tt_cmp (op_neP hK (u64 hr)) (pt_var (pv 2)) (pt_lst ta_nil) rfl) (tss_one (ts_expr (pt_mut (T := "list") (id := "list.append") (name := "append") hK PySem.F.plainAttrs_list PySem.F.slot_list_append PySem.F.type_list_append mu_append (pv 3) (ta_cons (pt_mut (T := "list") (id := "list.pop") (name := "pop") hK PySem.F.plainAttrs_list PySem.F.slot_list_pop PySem.F.type_list_pop mu_pop (pv 2) (ta_cons (pt_res (tr_call ((ok__law_take fx D__law_take).mono (Nat.le_refl _)) (Fill.all (D__law_take.bindsN fun _ _ _ _ _ _ us hl => match us, hl with | [_, _], _ => rfl)) hr2 tk rfl fx.g__law_take D__law_take.kp (ta_cons (pt_var (pv 0)) (ta_cons (pt_res (tr_bui (x := "len") (bu_len hK) rfl fx.f_len boot_len (ta_cons (pt_var (pv 2)) ta_nil))) ta_nil)))) ta_nil)) ta_nil)))))
    (tss_one (ts_ret hp (pt_var (pv 3))))))
def N__law_some_tasks : List PySem.Str := ["_law_box", "_law_most", "_law_names", "_law_tasks", "_law_name", "_law_needs", "_law_turn", "_law_at"]
theorem sc__law_some_tasks : FnScope N__law_some_tasks ["_law_box", "_law_most"] (defScope (top 23)) := ⟨rfl, rfl, rfl, by decide +kernel, rfl, by decide +kernel, by decide +kernel⟩
theorem ok__law_some_tasks (fx : Fx P K mg) {fd : FuncData} (D : FunD K "_law_some_tasks" "_law_some_tasks" (defArgs (top 23)) (defBody (top 23)) (defScope (top 23)) (([] : List He.Dv).map (He.Dv.v K)) (([] : List (PySem.Str × He.Dv)).map fun q => (q.1, q.2.v K)) (He.ga K "_law_some_tasks") fd) : FnG P w K mg base 4 (He.ga K "_law_some_tasks") fd ["_law_box", "_law_most"] (spF (tcN K cs) 2 Lib.F_h_some_tasks) := by
  obtain ⟨fd__law_mixed, D__law_mixed⟩ := fx.d__law_mixed
  obtain ⟨fd__law_take, D__law_take⟩ := fx.d__law_take
  refine fn_tree D sc__law_some_tasks (by decide) fun cdv A outer s H E r => ?_
  intro X hr hp tk po
  have hK : X.K = (tcN K cs).K := rfl
  have hc : X.calm = true := rfl
  have nd : X.N.Nodup := sc__law_some_tasks.nd
  have hr2 : RoomG 2 X.A := hr.mono (by decide)
  have hr3 : RoomG 3 X.A := hr.mono (by decide)
  exact (tss_cons (ts_set (i := 2) nd rfl locOf (npin hp) (pt_res (tr_call ((ok__law_mixed fx D__law_mixed).mono (Nat.le_refl _)) (Fill.all (D__law_mixed.bindsN fun _ _ _ _ _ _ us hl => match us, hl with | [_, _], _ => rfl)) hr3 tk rfl fx.g__law_mixed D__law_mixed.kp (ta_cons (pt_var (pv 0)) (ta_cons (pt_lst (ta_cons pt_str (ta_cons pt_str (ta_cons pt_str (ta_cons pt_str (ta_cons pt_str (ta_cons pt_str (ta_cons pt_str (ta_cons pt_str (ta_cons pt_str ta_nil)))))))))) ta_nil)))))
    (tss_cons (ts_set (i := 2) nd rfl locOf (npin hp) (pt_res (tr_sl hK (pt_var (pv 2)) to_no (to_so (pt_res (tr_call ((ok__law_take fx D__law_take).mono (Nat.le_refl _)) (Fill.all (D__law_take.bindsN fun _ _ _ _ _ _ us hl => match us, hl with | [_, _], _ => rfl)) hr2 tk rfl fx.g__law_take D__law_take.kp (ta_cons (pt_var (pv 0)) (ta_cons (pt_res (tr_bin (op_addA hK) (pt_var (pv 1)) pt_int)) ta_nil))))))))
    (tss_cons (ts_setLc (i := 3) (own := [("_law_name", 4)]) (us := [4]) hc nd rfl rfl (npin hp) rfl (npins hp) subl (ti_any hp hK (pt_var (pv 2))) (blkOk_by (by kernel_rfl)) (fun s H C cl fp => (tg_name (i := 4) (pg_name (i := 4) nd rfl locOf) (npin hp))) (fun s H C cl fp => tts_nil) (fun s H C cl fp => (pt_tup (ta_cons (pt_var (pv 4)) (ta_cons (pt_cmp op_gtP (pt_res (tr_call ((ok__law_take fx D__law_take).mono (Nat.le_refl _)) (Fill.all (D__law_take.bindsN fun _ _ _ _ _ _ us hl => match us, hl with | [_, _], _ => rfl)) hr2 takesW0 rfl fx.g__law_take D__law_take.kp (ta_cons (pt_var (pv 0)) (ta_cons pt_int ta_nil)))) pt_int rfl) (ta_cons (pt_cmp (op_eqP hK (u64 hr)) (pt_res (tr_call ((ok__law_take fx D__law_take).mono (Nat.le_refl _)) (Fill.all (D__law_take.bindsN fun _ _ _ _ _ _ us hl => match us, hl with | [_, _], _ => rfl)) hr2 takesW0 rfl fx.g__law_take D__law_take.kp (ta_cons (pt_var (pv 0)) (ta_cons pt_int ta_nil)))) pt_int rfl) ta_nil))))))
    (tss_cons (ts_own (i := 5) nd rfl locOf (npin hp) (pf_lst ta_nil))
    (tss_cons (ts_for (xs := Lib.eb_h_some_tasks_1) po hc (ti_range1 rfl fx.f_range (ta_cons (pt_if (tt_cmp op_gtP (pt_res (tr_bui (x := "len") (bu_len hK) rfl fx.f_len boot_len (ta_cons (pt_var (pv 2)) ta_nil))) pt_int rfl) (pt_res (tr_call ((ok__law_take fx D__law_take).mono (Nat.le_refl _)) (Fill.all (D__law_take.bindsN fun _ _ _ _ _ _ us hl => match us, hl with | [_, _], _ => rfl)) hr2 tk rfl fx.g__law_take D__law_take.kp (ta_cons (pt_var (pv 0)) (ta_cons pt_int ta_nil)))) pt_int) ta_nil)) (tg_name (i := 6) (pg_name (i := 6) nd rfl locOf) (npin hp)) (tss_cons (ts_set (i := 7) nd rfl locOf (npin hp) (pt_res (tr_call ((ok__law_take fx D__law_take).mono (Nat.le_refl _)) (Fill.all (D__law_take.bindsN fun _ _ _ _ _ _ us hl => match us, hl with | [_, _], _ => rfl)) hr2 tk rfl fx.g__law_take D__law_take.kp (ta_cons (pt_var (pv 0)) (ta_cons (pt_bin op_subP (pt_res (tr_bui (x := "len") (bu_len hK) rfl fx.f_len boot_len (ta_cons (pt_var (pv 2)) ta_nil))) pt_int) ta_nil)))))
    (tss_one (ts_expr (pt_mut (T := "list") (id := "list.append") (name := "append") hK PySem.F.plainAttrs_list PySem.F.slot_list_append PySem.F.type_list_append mu_append (pv 5) (ta_cons (pt_tup (ta_cons (pt_ix hK (pt_var (pv 2)) (pt_var (pv 7)) (fun _ _ => rfl)) (ta_cons (pt_ix hK (pt_var (pv 2)) (pt_res (tr_bin (op_addA hK) (pt_res (tr_bin (op_addA hK) (pt_var (pv 7)) pt_int)) (pt_res (tr_call ((ok__law_take fx D__law_take).mono (Nat.le_refl _)) (Fill.all (D__law_take.bindsN fun _ _ _ _ _ _ us hl => match us, hl with | [_, _], _ => rfl)) hr2 tk rfl fx.g__law_take D__law_take.kp (ta_cons (pt_var (pv 0)) (ta_cons (pt_bin op_subP (pt_bin op_subP (pt_res (tr_bui (x := "len") (bu_len hK) rfl fx.f_len boot_len (ta_cons (pt_var (pv 2)) ta_nil))) (pt_var (pv 7))) pt_int) ta_nil)))))) (fun _ _ => rfl)) ta_nil))) ta_nil))))))
    (tss_one (ts_ret hp (pt_tup (ta_cons (pt_res (tr_call ((ok__law_mixed fx D__law_mixed).mono (Nat.le_refl _)) (Fill.all (D__law_mixed.bindsN fun _ _ _ _ _ _ us hl => match us, hl with | [_, _], _ => rfl)) hr3 tk rfl fx.g__law_mixed D__law_mixed.kp (ta_cons (pt_var (pv 0)) (ta_cons (pt_var (pv 3)) ta_nil)))) (ta_cons (pt_frz hp (pt_var (pv 5))) ta_nil))))))))))
def N_law : List PySem.Str := ["_law_script", "_law_base", "_law_box", "_law_odd", "_law_turn", "_law_name", "_law_back", "_law_sure", "_law_tasks", "_law_needs", "_law_good", "_law_names", "_law_one", "_law_some", "_law_at", "_law_bad", "_law_more", "_law_ring", "_law_pairs"]
theorem sc_law : FnScope N_law ["_law_script"] (defScope (top 28)) := ⟨rfl, rfl, rfl, by decide +kernel, rfl, by decide +kernel, by decide +kernel⟩
theorem ok_law (fx : Fx P K mg) {fd : FuncData} (D : FunD K "law" "law" (defArgs (top 28)) (defBody (top 28)) (defScope (top 28)) (([] : List He.Dv).map (He.Dv.v K)) (([] : List (PySem.Str × He.Dv)).map fun q => (q.1, q.2.v K)) (He.ga K "law") fd) (TB : LamX.TabB base mg (codeOf K) (tcN K cs).tab) (hcode : fd.code = .ref (codeOf K)) : FnG P w K mg base 9 (He.ga K "law") fd ["_law_script"] (spL (tcN K cs) F_law) := by
  obtain ⟨fd__law_feed, D__law_feed⟩ := fx.d__law_feed
  obtain ⟨fd_Tasks___init__, D_Tasks___init__⟩ := fx.d_Tasks___init__
  obtain ⟨fd__law_pick, D__law_pick⟩ := fx.d__law_pick
  obtain ⟨fd__law_take, D__law_take⟩ := fx.d__law_take
  obtain ⟨fd__law_word, D__law_word⟩ := fx.d__law_word
  obtain ⟨fd_Task___init__, D_Task___init__⟩ := fx.d_Task___init__
  obtain ⟨fd__law_task_due, D__law_task_due⟩ := fx.d__law_task_due
  obtain ⟨fd__law_some_tasks, D__law_some_tasks⟩ := fx.d__law_some_tasks
  obtain ⟨fd__law_mixed, D__law_mixed⟩ := fx.d__law_mixed
  refine fn_law D sc_law hcode fun cdv A outer s H E r => ?_
  intro X hcd hr hp tk po
  have hK : X.K = (tcN K cs).K := rfl
  have hc : X.calm = true := rfl
  have nd : X.N.Nodup := sc_law.nd
  have hr2 : RoomG 2 X.A := hr.mono (by decide)
  have hr3 : RoomG 3 X.A := hr.mono (by decide)
  have hr4 : RoomG 4 X.A := hr.mono (by decide)
  have hr6 : RoomG 6 X.A := hr.mono (by decide)
  have hr8 : RoomG 8 X.A := hr.mono (by decide)
  exact (tss_cons (ts_for (xs := eb_law_25) po hc (ti_range1 rfl fx.f_range (ta_cons (pt_res (tr_bui (x := "max") (bu_max hc) rfl fx.f_max boot_max (ta_cons pt_int (ta_cons (pt_res (tr_bui (x := "min") (bu_min hc) rfl fx.f_min boot_min (ta_cons pt_int (ta_cons (pt_res (tr_bui (x := "len") (bu_len hK) rfl fx.f_len boot_len (ta_cons (pt_scr (pv 0)) ta_nil))) ta_nil)))) ta_nil)))) ta_nil)) (tg_name (i := 1) (pg_name (i := 1) nd rfl locOf) (npin hp)) (tss_cons (ts_own (i := 2) nd rfl locOf (npin hp) (pf_res (tr_call ((ok__law_feed fx D__law_feed).mono (Nat.le_refl _)) (Fill.all (D__law_feed.bindsN fun _ _ _ _ _ _ us hl => match us, hl with | [_, _], _ => rfl)) hr2 tk rfl fx.g__law_feed D__law_feed.kp (ta_cons (pt_scr (pv 0)) (ta_cons (pt_var (pv 1)) ta_nil)))))
    (tss_cons (ts_set (i := 3) nd rfl locOf (npin hp) (pt_lst (ta_cons pt_str (ta_cons pt_str (ta_cons pt_str (ta_cons pt_str (ta_cons pt_str (ta_cons pt_str (ta_cons pt_str (ta_cons pt_str (ta_cons pt_str (ta_cons pt_non (ta_cons pt_int (ta_cons pt_int (ta_cons pt_bl (ta_cons pt_bl ta_nil))))))))))))))))
    (tss_cons (ts_set (i := 3) nd rfl locOf (npin hp) (pt_res (tr_bin (op_addA hK) (pt_var (pv 3)) (pt_lst (ta_cons (pt_lst (ta_cons pt_str ta_nil)) (ta_cons (pt_tup (ta_cons pt_str ta_nil)) (ta_cons (pt_res (tr_make fx.k_Tasks ((ok_Tasks___init__ fx D_Tasks___init__).mono (Nat.le_refl _)) (x2_Tasks___init__ fx D_Tasks___init__) hr6 tk rfl fx.g_Tasks (ta_cons (pt_lst ta_nil) ta_nil))) ta_nil)))))))
    (tss_cons (ts_for (xs := eb_law_4) po hc (ti_range1 rfl fx.f_range (ta_cons pt_int ta_nil)) (tg_name (i := 4) (pg_name (i := 4) nd rfl locOf) (npin hp)) (tss_cons (ts_asg (pt_tup (ta_cons (pt_res (tr_call ((ok__law_pick fx D__law_pick).mono (Nat.le_refl _)) (Fill.all (D__law_pick.bindsN fun _ _ _ _ _ _ us hl => match us, hl with | [_, _], _ => rfl)) hr3 tk rfl fx.g__law_pick D__law_pick.kp (ta_cons (pt_var (pv 2)) (ta_cons (pt_var (pv 3)) ta_nil)))) (ta_cons (pt_res (tr_call ((ok__law_pick fx D__law_pick).mono (Nat.le_refl _)) (Fill.all (D__law_pick.bindsN fun _ _ _ _ _ _ us hl => match us, hl with | [_, _], _ => rfl)) hr3 tk rfl fx.g__law_pick D__law_pick.kp (ta_cons (pt_var (pv 2)) (ta_cons (pt_var (pv 3)) ta_nil)))) (ta_cons (pt_res (tr_call ((ok__law_pick fx D__law_pick).mono (Nat.le_refl _)) (Fill.all (D__law_pick.bindsN fun _ _ _ _ _ _ us hl => match us, hl with | [_, _], _ => rfl)) hr3 tk rfl fx.g__law_pick D__law_pick.kp (ta_cons (pt_var (pv 2)) (ta_cons (pt_var (pv 3)) ta_nil)))) ta_nil)))) (tg_tupL (n := 3) hK hc (tgs_cons (tg_name (i := 5) (pg_name (i := 5) nd rfl locOf) (npin hp)) (tgs_cons (tg_name (i := 6) (pg_name (i := 6) nd rfl locOf) (npin hp)) (tgs_cons (tg_name (i := 7) (pg_name (i := 7) nd rfl locOf) (npin hp)) tgs_nil)))))
    (tss_cons (ts_set (i := 6) nd rfl locOf (npin hp) (pt_if (tt_cmp (op_eqP hK (u64 hr)) (pt_res (tr_call ((ok__law_take fx D__law_take).mono (Nat.le_refl _)) (Fill.all (D__law_take.bindsN fun _ _ _ _ _ _ us hl => match us, hl with | [_, _], _ => rfl)) hr2 tk rfl fx.g__law_take D__law_take.kp (ta_cons (pt_var (pv 2)) (ta_cons pt_int ta_nil)))) pt_int rfl) (pt_var (pv 6)) pt_bl))
    (tss_one (ts_if (tt_cmp (op_neP hK (u64 hr)) (pt_res (tr_told (kk := 4) (js := []) (n := 3) (B := tb__law_word) D__law_word sc__law_word rfl (D__law_word.bindsN fun _ _ _ _ _ _ us hl => match us, hl with | [_], _ => rfl) rfl fx.g__law_word TB hcd (by kernel_rfl) hr6 nd (lamL_by (by kernel_rfl)) rfl (fun _ _ _ _ _ => rfl) (fun A l t HZ E f k' r => by intro X hr hp tk;have hK : X.K = (tcN K cs).K := rfl;have hc : X.calm = true := rfl;have nd : X.N.Nodup := sc_law.nd;have hr4 : RoomG 4 X.A := hr.mono (by decide);exact (pt_res (tr_make fx.k_Task ((ok_Task___init__ fx D_Task___init__).mono (Nat.le_refl _)) (x4_Task___init__ fx D_Task___init__) hr4 tk rfl fx.g_Task (ta_cons (pt_var (pv 5)) (ta_cons (pt_var (pv 6)) (ta_cons (pt_var (pv 7)) ta_nil)))))) (fun cdv s H E r w' hr hp tk po ask => tb__law_word_ok fx (hr.mono (by decide)) hp tk po ask) (.inl rfl))) (pt_res (tr_call ((ok__law_task_due fx D__law_task_due).mono (Nat.le_refl _)) (Fill.all (D__law_task_due.bindsN fun _ _ _ _ _ _ us hl => match us, hl with | [_, _, _], _ => rfl)) hr3 tk rfl fx.g__law_task_due D__law_task_due.kp (ta_cons (pt_var (pv 5)) (ta_cons (pt_var (pv 6)) (ta_cons (pt_var (pv 7)) ta_nil))))) rfl) (tss_one (ts_ret hp pt_bl)) tss_nil)))))
    (tss_cons (ts_asg (pt_res (tr_call ((ok__law_some_tasks fx D__law_some_tasks).mono (Nat.le_refl _)) (Fill.all (D__law_some_tasks.bindsN fun _ _ _ _ _ _ us hl => match us, hl with | [_, _], _ => rfl)) hr4 tk rfl fx.g__law_some_tasks D__law_some_tasks.kp (ta_cons (pt_var (pv 2)) (ta_cons pt_int ta_nil)))) (tg_tupL (n := 2) hK hc (tgs_cons (tg_name (i := 8) (pg_name (i := 8) nd rfl locOf) (npin hp)) (tgs_cons (tg_name (i := 9) (pg_name (i := 9) nd rfl locOf) (npin hp)) tgs_nil))))
    (tss_cons (ts_set (i := 10) nd rfl locOf (npin hp) (pt_res (tr_bin (op_addA hK) (pt_of (pf_lc (own := [("_law_name", 5), ("_law_back", 6), ("_law_sure", 7)]) (us := [5, 6, 7]) hc nd (npins hp) subl (ti_any hp hK (pt_var (pv 8))) (blkOk_by (by kernel_rfl)) (fun s H C cl fp => (tg_tupL (n := 3) (by exact hK) (by exact hc) (by exact (tgs_cons (us := [5]) (ws := [6, 7]) (tg_name (i := 5) (pg_name (i := 5) nd rfl locOf) (npin hp)) (tgs_cons (us := [6]) (ws := [7]) (tg_name (i := 6) (pg_name (i := 6) nd rfl locOf) (npin hp)) (tgs_cons (us := [7]) (ws := []) (tg_name (i := 7) (pg_name (i := 7) nd rfl locOf) (npin hp)) tgs_nil)))))) (fun s H C cl fp => tts_nil) (fun s H C cl fp => (pt_res (tr_make fx.k_Task ((ok_Task___init__ fx D_Task___init__).mono (Nat.le_refl _)) (x4_Task___init__ fx D_Task___init__) hr4 takesW0 rfl fx.g_Task (ta_cons (pt_var (pv 5)) (ta_cons (pt_var (pv 6)) (ta_cons (pt_var (pv 7)) ta_nil)))))))) (pt_lst (ta_cons (pt_res (tr_make fx.k_Task ((ok_Task___init__ fx D_Task___init__).mono (Nat.le_refl _)) (x2_Task___init__ fx D_Task___init__) hr4 tk rfl fx.g_Task (ta_cons pt_str ta_nil))) (ta_cons (pt_res (tr_make fx.k_Task ((ok_Task___init__ fx D_Task___init__).mono (Nat.le_refl _)) (x3_Task___init__ fx D_Task___init__) hr4 tk rfl fx.g_Task (ta_cons pt_str (ta_cons pt_bl ta_nil)))) ta_nil))))))
    (tss_cons (ts_set (i := 11) nd rfl locOf (npin hp) (pt_of (pf_lc (own := [("_law_one", 12)]) (us := [12]) hc nd (npins hp) subl (ti_any hp hK (pt_var (pv 10))) (blkOk_by (by kernel_rfl)) (fun s H C cl fp => (tg_name (i := 12) (pg_name (i := 12) nd rfl locOf) (npin hp))) (fun s H C cl fp => tts_nil) (fun s H C cl fp => (pt_fl (flAll (.cons (fun z => absurd z (by decide)) (.cons (fun _ => ⟨fx.c_Task, fx.n_Task__name⟩) .nil))) (pt_var (pv 12)))))))
    (tss_cons (ts_if (tt_cmp (op_neP hK (u64 hr)) (pt_res (tr_told (kk := 6) (js := []) (n := 3) (B := tb__law_word) D__law_word sc__law_word rfl (D__law_word.bindsN fun _ _ _ _ _ _ us hl => match us, hl with | [_], _ => rfl) rfl fx.g__law_word TB hcd (by kernel_rfl) hr8 nd (lamL_by (by kernel_rfl)) rfl (fun _ _ _ _ _ => rfl) (fun A l t HZ E f k' r => by intro X hr hp tk;have hK : X.K = (tcN K cs).K := rfl;have hc : X.calm = true := rfl;have nd : X.N.Nodup := sc_law.nd;have hr6 : RoomG 6 X.A := hr.mono (by decide);exact (pt_res (tr_make fx.k_Tasks ((ok_Tasks___init__ fx D_Tasks___init__).mono (Nat.le_refl _)) (x3_Tasks___init__ fx D_Tasks___init__) hr6 tk rfl fx.g_Tasks (ta_cons (pt_var (pv 10)) (ta_cons (pt_var (pv 9)) ta_nil))))) (fun cdv s H E r w' hr hp tk po ask => tb__law_word_ok fx (hr.mono (by decide)) hp tk po ask) (.inl rfl))) pt_str rfl) (tss_one (ts_ret hp pt_bl)) tss_nil)
    (tss_cons (ts_if (tt_cmp (op_neP hK (u64 hr)) (pt_res (tr_told (kk := 6) (js := []) (n := 3) (B := tb__law_word) D__law_word sc__law_word rfl (D__law_word.bindsN fun _ _ _ _ _ _ us hl => match us, hl with | [_], _ => rfl) rfl fx.g__law_word TB hcd (by kernel_rfl) hr8 nd (lamL_by (by kernel_rfl)) rfl (fun _ _ _ _ _ => rfl) (fun A l t HZ E f k' r => by intro X hr hp tk;have hK : X.K = (tcN K cs).K := rfl;have hc : X.calm = true := rfl;have nd : X.N.Nodup := sc_law.nd;have hr6 : RoomG 6 X.A := hr.mono (by decide);exact (pt_res (tr_make fx.k_Tasks ((ok_Tasks___init__ fx D_Tasks___init__).mono (Nat.le_refl _)) (x3_Tasks___init__ fx D_Tasks___init__) hr6 tk rfl fx.g_Tasks (ta_cons (pt_res (tr_buiT (x := "tuple") (bu_tuple hK) rfl fx.f_tuple boot_tuple (ta_cons (pt_var (pv 10)) ta_nil))) (ta_cons (pt_res (tr_buiT (x := "tuple") (bu_tuple hK) rfl fx.f_tuple boot_tuple (ta_cons (pt_var (pv 9)) ta_nil))) ta_nil))))) (fun cdv s H E r w' hr hp tk po ask => tb__law_word_ok fx (hr.mono (by decide)) hp tk po ask) (.inl rfl))) pt_str rfl) (tss_one (ts_ret hp pt_bl)) tss_nil)
    (tss_cons (ts_for (xs := eb_law_5) po hc (ti_any hp hK (pt_tup (ta_cons pt_non (ta_cons pt_int (ta_cons pt_str (ta_cons (pt_res (tr_bin (op_addA hK) (pt_var (pv 10)) (pt_lst (ta_cons pt_non ta_nil)))) (ta_cons (pt_res (tr_bin (op_addA hK) (pt_var (pv 10)) (pt_lst (ta_cons pt_str ta_nil)))) (ta_cons (pt_lst (ta_cons (pt_var (pv 10)) ta_nil)) (ta_cons (pt_res (tr_make fx.k_Task ((ok_Task___init__ fx D_Task___init__).mono (Nat.le_refl _)) (x2_Task___init__ fx D_Task___init__) hr4 tk rfl fx.g_Task (ta_cons pt_str ta_nil))) ta_nil))))))))) (tg_name (i := 13) (pg_name (i := 13) nd rfl locOf) (npin hp)) (tss_one (ts_if (tt_cmp (op_neP hK (u64 hr)) (pt_res (tr_told (kk := 6) (js := []) (n := 3) (B := tb__law_word) D__law_word sc__law_word rfl (D__law_word.bindsN fun _ _ _ _ _ _ us hl => match us, hl with | [_], _ => rfl) rfl fx.g__law_word TB hcd (by kernel_rfl) hr8 nd (lamL_by (by kernel_rfl)) rfl (fun _ _ _ _ _ => rfl) (fun A l t HZ E f k' r => by intro X hr hp tk;have hK : X.K = (tcN K cs).K := rfl;have hc : X.calm = true := rfl;have nd : X.N.Nodup := sc_law.nd;have hr6 : RoomG 6 X.A := hr.mono (by decide);exact (pt_res (tr_make fx.k_Tasks ((ok_Tasks___init__ fx D_Tasks___init__).mono (Nat.le_refl _)) (x3_Tasks___init__ fx D_Tasks___init__) hr6 tk rfl fx.g_Tasks (ta_cons (pt_var (pv 13)) (ta_cons pt_non ta_nil))))) (fun cdv s H E r w' hr hp tk po ask => tb__law_word_ok fx (hr.mono (by decide)) hp tk po ask) (.inl rfl))) pt_str rfl) (tss_one (ts_ret hp pt_bl)) tss_nil)))
    (tss_cons (ts_set (i := 14) nd rfl locOf (npin hp) (pt_res (tr_call ((ok__law_take fx D__law_take).mono (Nat.le_refl _)) (Fill.all (D__law_take.bindsN fun _ _ _ _ _ _ us hl => match us, hl with | [_, _], _ => rfl)) hr2 tk rfl fx.g__law_take D__law_take.kp (ta_cons (pt_var (pv 2)) (ta_cons (pt_res (tr_bui (x := "len") (bu_len hK) rfl fx.f_len boot_len (ta_cons (pt_var (pv 10)) ta_nil))) ta_nil)))))
    (tss_cons (ts_if (tt_cmp (op_neP hK (u64 hr)) (pt_res (tr_told (kk := 6) (js := []) (n := 3) (B := tb__law_word) D__law_word sc__law_word rfl (D__law_word.bindsN fun _ _ _ _ _ _ us hl => match us, hl with | [_], _ => rfl) rfl fx.g__law_word TB hcd (by kernel_rfl) hr8 nd (lamL_by (by kernel_rfl)) rfl (fun _ _ _ _ _ => rfl) (fun A l t HZ E f k' r => by intro X hr hp tk;have hK : X.K = (tcN K cs).K := rfl;have hc : X.calm = true := rfl;have nd : X.N.Nodup := sc_law.nd;have hr4 : RoomG 4 X.A := hr.mono (by decide);have hr6 : RoomG 6 X.A := hr.mono (by decide);exact (pt_res (tr_make fx.k_Tasks ((ok_Tasks___init__ fx D_Tasks___init__).mono (Nat.le_refl _)) (x3_Tasks___init__ fx D_Tasks___init__) hr6 tk rfl fx.g_Tasks (ta_cons (pt_res (tr_bin (op_addA hK) (pt_var (pv 10)) (pt_lst (ta_cons (pt_res (tr_make fx.k_Task ((ok_Task___init__ fx D_Task___init__).mono (Nat.le_refl _)) (x4_Task___init__ fx D_Task___init__) hr4 tk rfl fx.g_Task (ta_cons (pt_ix hK (pt_var (pv 11)) (pt_var (pv 14)) (fun _ _ => rfl)) (ta_cons pt_bl (ta_cons pt_bl ta_nil))))) ta_nil)))) (ta_cons pt_non ta_nil))))) (fun cdv s H E r w' hr hp tk po ask => tb__law_word_ok fx (hr.mono (by decide)) hp tk po ask) (.inl rfl))) pt_str rfl) (tss_one (ts_ret hp pt_bl)) tss_nil)
    (tss_cons (ts_set (i := 15) nd rfl locOf (npin hp) (pt_lst (ta_cons (pt_tup (ta_cons pt_str (ta_cons pt_str ta_nil))) (ta_cons (pt_lst (ta_cons pt_str (ta_cons pt_str ta_nil))) (ta_cons (pt_tup (ta_cons pt_str ta_nil)) (ta_cons (pt_tup (ta_cons pt_str (ta_cons pt_str (ta_cons pt_str ta_nil)))) (ta_cons pt_str (ta_cons pt_non (ta_cons (pt_tup (ta_cons pt_int (ta_cons pt_str ta_nil))) (ta_cons (pt_tup (ta_cons (pt_lst (ta_cons pt_str ta_nil)) (ta_cons pt_str ta_nil))) ta_nil))))))))))
    (tss_cons (ts_for (xs := eb_law_6) po hc (ti_any hp hK (pt_tup (ta_cons pt_non (ta_cons pt_int (ta_cons pt_str (ta_cons (pt_tup (ta_cons pt_str (ta_cons pt_str ta_nil))) (ta_cons (pt_res (tr_bin (op_addA hK) (pt_var (pv 9)) (pt_lst (ta_cons (pt_res (tr_call ((ok__law_pick fx D__law_pick).mono (Nat.le_refl _)) (Fill.all (D__law_pick.bindsN fun _ _ _ _ _ _ us hl => match us, hl with | [_, _], _ => rfl)) hr3 tk rfl fx.g__law_pick D__law_pick.kp (ta_cons (pt_var (pv 2)) (ta_cons (pt_var (pv 15)) ta_nil)))) ta_nil)))) ta_nil))))))) (tg_name (i := 16) (pg_name (i := 16) nd rfl locOf) (npin hp)) (tss_one (ts_if (tt_cmp (op_neP hK (u64 hr)) (pt_res (tr_told (kk := 6) (js := []) (n := 3) (B := tb__law_word) D__law_word sc__law_word rfl (D__law_word.bindsN fun _ _ _ _ _ _ us hl => match us, hl with | [_], _ => rfl) rfl fx.g__law_word TB hcd (by kernel_rfl) hr8 nd (lamL_by (by kernel_rfl)) rfl (fun _ _ _ _ _ => rfl) (fun A l t HZ E f k' r => by intro X hr hp tk;have hK : X.K = (tcN K cs).K := rfl;have hc : X.calm = true := rfl;have nd : X.N.Nodup := sc_law.nd;have hr6 : RoomG 6 X.A := hr.mono (by decide);exact (pt_res (tr_make fx.k_Tasks ((ok_Tasks___init__ fx D_Tasks___init__).mono (Nat.le_refl _)) (x3_Tasks___init__ fx D_Tasks___init__) hr6 tk rfl fx.g_Tasks (ta_cons (pt_var (pv 10)) (ta_cons (pt_var (pv 16)) ta_nil))))) (fun cdv s H E r w' hr hp tk po ask => tb__law_word_ok fx (hr.mono (by decide)) hp tk po ask) (.inl rfl))) pt_str rfl) (tss_one (ts_ret hp pt_bl)) tss_nil)))
    (tss_cons (ts_set (i := 17) nd rfl locOf (npin hp) (pt_res (tr_sl hK (pt_res (tr_call ((ok__law_mixed fx D__law_mixed).mono (Nat.le_refl _)) (Fill.all (D__law_mixed.bindsN fun _ _ _ _ _ _ us hl => match us, hl with | [_, _], _ => rfl)) hr3 tk rfl fx.g__law_mixed D__law_mixed.kp (ta_cons (pt_var (pv 2)) (ta_cons (pt_var (pv 11)) ta_nil)))) to_no (to_so (pt_res (tr_bin (op_addA hK) pt_int (pt_res (tr_call ((ok__law_take fx D__law_take).mono (Nat.le_refl _)) (Fill.all (D__law_take.bindsN fun _ _ _ _ _ _ us hl => match us, hl with | [_, _], _ => rfl)) hr2 tk rfl fx.g__law_take D__law_take.kp (ta_cons (pt_var (pv 2)) (ta_cons (pt_res (tr_bui (x := "len") (bu_len hK) rfl fx.f_len boot_len (ta_cons (pt_var (pv 11)) ta_nil))) ta_nil))))))))))
    (tss_cons (ts_set (i := 18) nd rfl locOf (npin hp) (pt_of (pf_lc (own := [("_law_at", 14)]) (us := [14]) hc nd (npins hp) subl (ti_range1 rfl fx.f_range (ta_cons (pt_res (tr_bui (x := "len") (bu_len hK) rfl fx.f_len boot_len (ta_cons (pt_var (pv 17)) ta_nil))) ta_nil)) (blkOk_by (by kernel_rfl)) (fun s H C cl fp => (tg_name (i := 14) (pg_name (i := 14) nd rfl locOf) (npin hp))) (fun s H C cl fp => tts_nil) (fun s H C cl fp => (pt_tup (ta_cons (pt_ix hK (pt_var (pv 17)) (pt_var (pv 14)) (fun _ _ => rfl)) (ta_cons (pt_ix hK (pt_var (pv 17)) (pt_bin op_modP (pt_res (tr_bin (op_addA hK) (pt_var (pv 14)) pt_int)) (pt_res (tr_bui (x := "len") (bu_len hK) rfl fx.f_len boot_len (ta_cons (pt_var (pv 17)) ta_nil)))) (fun _ _ => rfl)) ta_nil)))))))
    (tss_cons (ts_if (tt_cmp (op_neP hK (u64 hr)) (pt_res (tr_toldB (kk := 6) (js := []) (n := 3) (i := 2) (B := tb__law_word) D__law_word sc__law_word rfl (D__law_word.bindsN fun _ _ _ _ _ _ us hl => match us, hl with | [_], _ => rfl) rfl fx.g__law_word TB hcd (by kernel_rfl) hr8 nd (lamL_by (by kernel_rfl)) rfl (fun _ _ _ _ _ => rfl) (fun A l t HZ E f k' r => by intro X hr hp tk;have hK : X.K = (tcN K cs).K := rfl;have hc : X.calm = true := rfl;have nd : X.N.Nodup := sc_law.nd;have hr3 : RoomG 3 X.A := hr.mono (by decide);have hr6 : RoomG 6 X.A := hr.mono (by decide);exact (pt_res (tr_make fx.k_Tasks ((ok_Tasks___init__ fx D_Tasks___init__).mono (Nat.le_refl _)) (x3_Tasks___init__ fx D_Tasks___init__) hr6 tk rfl fx.g_Tasks (ta_cons (pt_var (pv 10)) (ta_cons (pt_res (tr_call ((ok__law_mixed fx D__law_mixed).mono (Nat.le_refl _)) (Fill.all (D__law_mixed.bindsN fun _ _ _ _ _ _ us hl => match us, hl with | [_, _], _ => rfl)) hr3 tk rfl fx.g__law_mixed D__law_mixed.kp (ta_cons (pt_var (pv 2)) (ta_cons (pt_res (tr_bin (op_addA hK) (pt_var (pv 18)) (pt_var (pv 9)))) ta_nil)))) ta_nil))))) (fun cdv s H E r w' hr hp tk po ask => tb__law_word_ok fx (hr.mono (by decide)) hp tk po ask) (by decide) (by decide) (.inl rfl))) pt_str rfl) (tss_one (ts_ret hp pt_bl)) tss_nil)
    (tss_one (ts_if (tt_cmp (op_neP hK (u64 hr)) (pt_res (tr_told (kk := 6) (js := []) (n := 3) (B := tb__law_word) D__law_word sc__law_word rfl (D__law_word.bindsN fun _ _ _ _ _ _ us hl => match us, hl with | [_], _ => rfl) rfl fx.g__law_word TB hcd (by kernel_rfl) hr8 nd (lamL_by (by kernel_rfl)) rfl (fun _ _ _ _ _ => rfl) (fun A l t HZ E f k' r => by intro X hr hp tk;have hK : X.K = (tcN K cs).K := rfl;have hc : X.calm = true := rfl;have nd : X.N.Nodup := sc_law.nd;have hr6 : RoomG 6 X.A := hr.mono (by decide);exact (pt_res (tr_make fx.k_Tasks ((ok_Tasks___init__ fx D_Tasks___init__).mono (Nat.le_refl _)) (x3_Tasks___init__ fx D_Tasks___init__) hr6 tk rfl fx.g_Tasks (ta_cons (pt_var (pv 10)) (ta_cons (pt_res (tr_bin (op_addA hK) (pt_var (pv 9)) (pt_var (pv 9)))) ta_nil))))) (fun cdv s H E r w' hr hp tk po ask => tb__law_word_ok fx (hr.mono (by decide)) hp tk po ask) (.inl rfl))) pt_str rfl) (tss_one (ts_ret hp pt_bl)) tss_nil))))))))))))))))))))
    (tss_one (ts_ret hp pt_bl)))
end
theorem fx_of {K : PySem.W.Frag} {h : Heap} {mg : PySem.Str → Option Value} (X : K.In h) (G : h.Ns mainGlobals mg) (c : SaysT fs fn K) : Fx PySem.Challenge.rw_stepsback_k54_tasks_refused.prog K mg where
  f_len := He.free_ok X G (c.fact 0)
  f_min := He.free_ok X G (c.fact 1)
  f_max := He.free_ok X G (c.fact 2)
  f_range := He.free_ok X G (c.fact 3)
  f_int := He.free_ok X G (c.fact 4)
  f_abs := He.free_ok X G (c.fact 5)
  g__law_feed := He.glo_ok X G (c.fact 6)
  is_list_tuple := (c.fact 7)
  f_tuple := He.free_ok X G (c.fact 8)
  f_list := He.free_ok X G (c.fact 9)
  q_Task := isicB_ok (c.fact 10)
  q_Tasks := isicB_ok (c.fact 11)
  f_isinstance := He.free_ok X G (c.fact 12)
  g_is_sequence := He.glo_ok X G (c.fact 13)
  is_Task := (c.fact 14)
  g_Task := He.glo_ok X G (c.fact 15)
  f_all := He.free_ok X G (c.fact 16)
  x1_InvalidTask := (c.fact 17 (f := fun K => xcB1 XB.value "word" (He.ga K "InvalidTask") K))
  x2_InvalidTask := (c.fact 18 (f := fun K => xcB2 "word" PySem.Challenge.pw_stepsback_k54_tasks_refused.main.file (He.ga K "InvalidTask") K))
  x3_InvalidTask := (c.fact 19 (f := fun K => xcB3 XB.value "word" (He.ga K "InvalidTask") K))
  x4_InvalidTask := (c.fact 20 (f := fun K => xcB4 "word" (He.ga K "InvalidTask") K))
  x5_InvalidTask := (c.fact 21 (f := fun K => xcB5 (He.ga K "InvalidTask") K))
  g_InvalidTask := He.glo_ok X G (c.fact 22)
  c_Task := He.cls_ok (c.fact 23)
  n_Task__name := He.noat_ok (c.fact 24)
  f_set := He.free_ok X G (c.fact 25)
  is_tuple := (c.fact 26)
  is_str := (c.fact 27)
  f_str := He.free_ok X G (c.fact 28)
  g_is_need := He.glo_ok X G (c.fact 29)
  g_joined_with := He.glo_ok X G (c.fact 30)
  g_closed := He.glo_ok X G (c.fact 31)
  f_any := He.free_ok X G (c.fact 32)
  g_has_ring := He.glo_ok X G (c.fact 33)
  c_Tasks := He.cls_ok (c.fact 34)
  n_Tasks__tasks := He.noat_ok (c.fact 35)
  n_Tasks__needs := He.noat_ok (c.fact 36)
  k_Tasks := He.mkr_ok (c.fact 37)
  g_Tasks := He.glo_ok X G (c.fact 38)
  g__law_take := He.glo_ok X G (c.fact 39)
  g__law_pick := He.glo_ok X G (c.fact 40)
  g_StepError := He.glo_ok X G (c.fact 41)
  xi_24 := (c.fact 42)
  kt_24_StepError := (c.fact 43)
  g_InvalidRow := He.glo_ok X G (c.fact 44)
  kt_24_InvalidRow := (c.fact 45)
  xf_24_word := (c.fact 46)
  em_24_24 := (c.fact 47)
  g_BARRED := He.glo_ok X G (c.fact 48)
  t_BARRED := fun H => by have z := He.tupB_ok (c.fact 49 (f := fun K => He.tupB K "BARRED" ((["and", "any", "do", "if", "none", "not", "same", "send", "then", "time", "to", "wipe", "work"] : List PySem.Str).map He.Dv.str))) H; rw [dv_strs] at z; exact z
  s_SMALL := He.str_ok X G (c.fact 50)
  g_is_name := He.glo_ok X G (c.fact 51)
  is_bool := (c.fact 52)
  f_bool := He.free_ok X G (c.fact 53)
  n_Task__back := He.noat_ok (c.fact 54)
  n_Task__sure := He.noat_ok (c.fact 55)
  k_Task := He.mkr_ok (c.fact 56)
  g__law_word := He.glo_ok X G (c.fact 57)
  g__law_is_name := He.glo_ok X G (c.fact 58)
  g__law_is_bool := He.glo_ok X G (c.fact 59)
  g__law_task_due := He.glo_ok X G (c.fact 60)
  g__law_mixed := He.glo_ok X G (c.fact 61)
  g__law_some_tasks := He.glo_ok X G (c.fact 62)
  d_Tasks___init___0 := nilAt_ok (c.fact 63)
  g_law := He.glo_ok X G (c.fact 64)
  tabc := (c.fact 65 (f := fun K => codeB (tabOf K) K))
  xc_InvalidTask := xcAll (fl := PySem.Challenge.pw_stepsback_k54_tasks_refused.main.file) (by rfl) (by decide +kernel) (c.fact 17 (f := fun K => xcB1 XB.value "word" (He.ga K "InvalidTask") K)) (c.fact 18 (f := fun K => xcB2 "word" PySem.Challenge.pw_stepsback_k54_tasks_refused.main.file (He.ga K "InvalidTask") K)) (c.fact 19 (f := fun K => xcB3 XB.value "word" (He.ga K "InvalidTask") K)) (c.fact 20 (f := fun K => xcB4 "word" (He.ga K "InvalidTask") K)) (c.fact 21 (f := fun K => xcB5 (He.ga K "InvalidTask") K))
  d__law_feed := c.def_ 0 (d := dd__law_feed)
  d_is_sequence := c.def_ 1 (d := dd_is_sequence)
  d_is_need := c.def_ 2 (d := dd_is_need)
  d_joined_with := c.def_ 3 (d := dd_joined_with)
  d_closed := c.def_ 4 (d := dd_closed)
  d_has_ring := c.def_ 5 (d := dd_has_ring)
  d_Tasks___init__ := c.def_ 6 (d := dd_Tasks___init__)
  d__law_take := c.def_ 7 (d := dd__law_take)
  d__law_pick := c.def_ 8 (d := dd__law_pick)
  d__law_word := c.def_ 9 (d := dd__law_word)
  d_is_name := c.def_ 10 (d := dd_is_name)
  d_Task___init__ := c.def_ 11 (d := dd_Task___init__)
  d__law_is_name := c.def_ 12 (d := dd__law_is_name)
  d__law_is_bool := c.def_ 13 (d := dd__law_is_bool)
  d__law_task_due := c.def_ 14 (d := dd__law_task_due)
  d__law_mixed := c.def_ 15 (d := dd__law_mixed)
  d__law_some_tasks := c.def_ 16 (d := dd__law_some_tasks)
  d_law := c.def_ 17 (d := dd_law)
end Lk54
open PySem PySem.W PySem.Calls PyProof.Rows
theorem Lk54.holds (plain : ∀ ns : List Int, ns.length ≤ 63 → ∃ as, Lk54.F_law [.t (.scr ns)] = .ret (.t (.bl true)) as) : PySem.Challenge.rw_stepsback_k54_tasks_refused.Holds := by
  w_on; o_law
  refine TreeL.head_parts (r := OpenLaw.row PySem.Challenge.rw_stepsback_k54_tasks_refused) (q := Lk54.qv) (H := Lk54.hk) (loose := Lk54.nms) (d := HandSHeadRun.topDef (OpenLaw.row PySem.Challenge.rw_stepsback_k54_tasks_refused).prog 28) (kwd := []) (TreeL.left_boot Lk54.r_boot Lk54.r_ann Lk54.ob_eq (by kernel_rfl) (fun s => by kernel_rfl) Lk54.r_all) (by kernel_rfl) (by kernel_rfl) (by kernel_rfl) (by rfl) (by first | assumption | decide +kernel) (by decide +kernel) ⟨rfl, rfl, rfl, rfl, rfl, by decide +kernel⟩ ?hw ?hc
  case hw => w_witness2
  case hc =>
    refine TreeL.walkT (l := PySem.Challenge.rw_stepsback_k54_tasks_refused) (n := 63) (kk := 9) (x := "_law_script") rfl (by decide) (by kernel_rfl) (TreeL.room_top ⟨rfl, by decide, by decide⟩) ?F
    intro w mg fa h Y G hmg0
    obtain ⟨K, KX, c, nT, gT⟩ := Y
    have hmg : mg ("law" : PySem.Str) = some (.ref fa) := by
      have e : (HandSHeadRun.topDef (OpenLaw.row PySem.Challenge.rw_stepsback_k54_tasks_refused).prog 28).name = ("law" : PySem.Str) := by kernel_rfl
      rw [← e]
      exact hmg0
    have fx := Lk54.fx_of KX G c
    obtain ⟨fd, D⟩ := fx.d_law
    have e := hmg.symm.trans fx.g_law
    cases e
    exact ⟨K, fd, TreeL.tcN K Lk54.cs, Lk54.F_law, TreeL.codeOf K, KX, fun s u => L2.FunD.bindsA (ps := ["_law_script"]) D (fun _ _ _ _ _ _ us hl => match us, hl with | [_], _ => rfl) s [u] rfl, rfl, gT, nT, (TreeL.codeB_hd KX fx.tabc).2, plain, fun base _ _ TB => Lk54.ok_law fx D TB (TreeL.codeB_fd D fx.tabc)⟩
end
theorem PySem.Challenge.cw_stepsback_k54_tasks_refused_holds : PySem.Challenge.rw_stepsback_k54_tasks_refused.Holds := by
  exact Lk54.holds Lk54.plain
