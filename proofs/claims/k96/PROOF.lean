import PyProof.Rows.All
import Wide.All
import OpenK.AllK
import Wide.FinOn
import KE.KDictKeyed
import HandS.ForMost
import HandS.More
import HandS.Defaults
import HandS.Deep
import HandS.IsInst
import HandS.Strs
import HandS.Zip
import HandS.TupAny
import HandS.TupLe
import HandS.DictComp
import HandS.Conv
import HandS.Steps
import HandS.Flow
import HandS.Flt
import KE.DataMinMax
import HandS.SortKw
import HandS.SetFor
import HandS.Lambda
import KE.KLam
import KE.SortKeyHeap
import KE.KStateDown
import HandS.Ends
import HandS.Words
import HandS.WordsExc
import HandS.Head0
import HandS.Head1
import HandS.Head2
import HandS.HeadEnd
import HandS.HeadHook1
import HandS.HeadHook2
import HandS.HeadHook3
import HandS.HeadHook4
import HandS.HeadWalk
import Lean
import PySem.Challenge.RW_partnerlots_k96_whole_exchange_bounds_sp
section
set_option Elab.async false
set_option linter.all false
set_option maxRecDepth 100000
set_option maxHeartbeats 2000000
namespace PL
open PySem PySem.Spec PyProof.Rows L2

/-- plain data -/
inductive D where
  | non | bl (b : Bool) | int (i : Int) | str (x : Str) | tup (ds : List D) | lst (ds : List D) | dic (ks vs : List D) | dik (ks : List Str) (vs : List D) | pot

mutual
def D.beq : D → D → Bool
  | .non, .non => true
  | .bl a, .bl b => decide (a = b)
  | .int a, .int b => decide (a = b)
  | .str a, .str b => decide (a = b)
  | .tup a, .tup b => D.beqA a b
  | .lst a, .lst b => D.beqA a b
  | .dic a c, .dic b d => D.beqA a b && D.beqA c d
  | .dik a c, .dik b d => decide (a = b) && D.beqA c d
  | .pot, .pot => true
  | _, _ => false
def D.beqA : List D → List D → Bool
  | [], [] => true
  | a :: as, b :: bs => D.beq a b && D.beqA as bs
  | _, _ => false
end
mutual
theorem D.beq_self : ∀ a : D, D.beq a a = true
  | .non => rfl
  | .bl a => by simp [D.beq]
  | .int a => by simp [D.beq]
  | .str a => by simp [D.beq]
  | .tup a => by rw [D.beq]; exact D.beqA_self a
  | .lst a => by rw [D.beq]; exact D.beqA_self a
  | .dic a b => by rw [D.beq, D.beqA_self a, D.beqA_self b]; rfl
  | .dik a b => by rw [D.beq, D.beqA_self b]; simp
  | .pot => rfl
theorem D.beqA_self : ∀ a : List D, D.beqA a a = true
  | [] => rfl
  | a :: as => by rw [D.beqA, D.beq_self a, D.beqA_self as]; rfl
end
mutual
theorem D.eq_of_beq : ∀ a b : D, D.beq a b = true → a = b
  | .non, b, h => by cases b <;> simp_all [D.beq]
  | .pot, b, h => by cases b <;> simp_all [D.beq]
  | .bl a, b, h => by cases b <;> simp_all [D.beq]
  | .int a, b, h => by cases b <;> simp_all [D.beq]
  | .str a, b, h => by cases b <;> simp_all [D.beq]
  | .tup a, b, h => by
    cases b with
    | tup b => rw [D.beq] at h; rw [D.eq_of_beqA a b h]
    | _ => simp [D.beq] at h
  | .lst a, b, h => by
    cases b with
    | lst b => rw [D.beq] at h; rw [D.eq_of_beqA a b h]
    | _ => simp [D.beq] at h
  | .dic a c, b, h => by
    cases b with
    | dic b d =>
      rw [D.beq, Bool.and_eq_true] at h
      rw [D.eq_of_beqA a b h.1, D.eq_of_beqA c d h.2]
    | _ => simp [D.beq] at h
  | .dik a c, b, h => by
    cases b with
    | dik b d =>
      rw [D.beq, Bool.and_eq_true, decide_eq_true_eq] at h
      rw [h.1, D.eq_of_beqA c d h.2]
    | _ => simp [D.beq] at h
theorem D.eq_of_beqA : ∀ a b : List D, D.beqA a b = true → a = b
  | [], b, h => by cases b <;> simp_all [D.beqA]
  | a :: as, b, h => by
    cases b with
    | nil => simp [D.beqA] at h
    | cons b bs =>
      rw [D.beqA, Bool.and_eq_true] at h
      rw [D.eq_of_beq a b h.1, D.eq_of_beqA as bs h.2]
end
instance : DecidableEq D := fun a b => if h : D.beq a b = true then Decidable.isTrue (D.eq_of_beq a b h) else Decidable.isFalse fun e => h (e ▸ D.beq_self a)
theorem D.decide_eq (a b : D) : decide (a = b) = D.beq a b := by
  cases h : D.beq a b with
  | true => exact decide_eq_true (D.eq_of_beq a b h)
  | false => exact decide_eq_false fun e => by rw [e, D.beq_self] at h; cases h

mutual
def D.py : D → PyData
  | .non => .none
  | .bl b => .bool b
  | .int i => .int i
  | .str x => .str x
  | .tup ds => .tuple (D.pys ds)
  | .lst ds => .list (D.pys ds)
  | .dic _ _ => .dict []
  | .dik _ _ => .dict []
  | .pot => .none
def D.pys : List D → List PyData
  | [] => []
  | d :: ds => D.py d :: D.pys ds
end
theorem D.pys_map : ∀ ds : List D, D.pys ds = ds.map D.py
  | [] => rfl
  | d :: ds => by rw [D.pys, D.pys_map ds]; rfl
/-- clean to the depth n: no truth values, no dicts, texts in range -/
def D.cl : Nat → D → Bool
  | _, .non => true
  | _, .int _ => true
  | _, .str x => PyData.strOk x
  | n + 1, .tup ds => ds.all (D.cl n)
  | n + 1, .lst ds => ds.all (D.cl n)
  | _, _ => false
abbrev D.cln (d : D) : Bool := D.cl 20 d
theorem D.cl_lay : ∀ (n : Nat) (d : D), D.cl n d = true → d.py.canLay0 = true ∧ d.py.depth ≤ n := by
  intro n
  induction n with
  | zero =>
    intro d h
    cases d <;> simp_all [D.cl, D.py, PyData.canLay0, PyData.depth]
  | succ n ih =>
    have all : ∀ ds : List D, ds.all (D.cl n) = true → PyData.canLayAll0 (D.pys ds) = true ∧ PyData.depthAll (D.pys ds) ≤ n := by
      intro ds
      induction ds with
      | nil => intro _; exact ⟨by simp [D.pys, PyData.canLayAll0], by simp [D.pys, PyData.depthAll]⟩
      | cons d ds ih2 =>
        intro h
        rw [List.all_cons, Bool.and_eq_true] at h
        obtain ⟨a1, a2⟩ := ih d h.1
        obtain ⟨b1, b2⟩ := ih2 h.2
        refine ⟨by simp [D.pys, PyData.canLayAll0, a1, b1], ?_⟩
        simp only [D.pys, PyData.depthAll]
        omega
    intro d h
    cases d with
    | tup ds =>
      obtain ⟨a, b⟩ := all ds (by simpa [D.cl] using h)
      exact ⟨by simp [D.py, PyData.canLay0, a], by simp only [D.py, PyData.depth]; omega⟩
    | lst ds =>
      obtain ⟨a, b⟩ := all ds (by simpa [D.cl] using h)
      exact ⟨by simp [D.py, PyData.canLay0, a], by simp only [D.py, PyData.depth]; omega⟩
    | _ => simp_all [D.cl, D.py, PyData.canLay0, PyData.depth]
theorem D.shaped {n : Nat} {d : D} (h : D.cl n d = true) (hn : n ≤ 64 := by decide) : SeqAt.shaped d.py = true := by
  obtain ⟨a, b⟩ := D.cl_lay n d h
  show (d.py.canLay0 && decide (d.py.depth ≤ 64)) = true
  rw [a, Bool.true_and]
  exact decide_eq_true (by omega)
theorem D.eqv_py : ∀ (n m : Nat) (a b : D), D.cl n a = true → D.cl m b = true → PyData.eqv a.py b.py = decide (a = b) := by
  intro n
  induction n with
  | zero =>
    intro m a b ha hb
    cases a <;> cases b <;> cases m <;> first | (exfalso; simp [D.cl] at ha; done) | (exfalso; simp [D.cl] at hb; done) | simp [D.py, PyData.eqv, Bool.beq_eq_decide_eq]
  | succ n ih =>
    have all : ∀ (m : Nat) (as bs : List D), as.all (D.cl n) = true → bs.all (D.cl m) = true → PyData.eqvAll (D.pys as) (D.pys bs) = decide (as = bs) := by
      intro m as
      induction as with
      | nil =>
        intro bs _ _
        cases bs <;> simp [D.pys, PyData.eqvAll]
      | cons a as ih2 =>
        intro bs ha hb
        cases bs with
        | nil => simp [D.pys, PyData.eqvAll]
        | cons b bs =>
          rw [List.all_cons, Bool.and_eq_true] at ha hb
          simp only [D.pys, PyData.eqvAll]
          rw [ih m a b ha.1 hb.1, ih2 bs ha.2 hb.2]
          by_cases e1 : a = b <;> by_cases e2 : as = bs <;> simp [e1, e2]
    intro m a b ha hb
    cases a with
    | tup as =>
      cases b with
      | tup bs =>
        cases m with
        | zero => exfalso; simp [D.cl] at hb
        | succ m =>
          have e := all m as bs (by simpa [D.cl] using ha) (by simpa [D.cl] using hb)
          simp [D.py, PyData.eqv, e]
      | _ => first | (exfalso; cases m <;> simp [D.cl] at hb; done) | simp [D.py, PyData.eqv]
    | lst as =>
      cases b with
      | lst bs =>
        cases m with
        | zero => exfalso; simp [D.cl] at hb
        | succ m =>
          have e := all m as bs (by simpa [D.cl] using ha) (by simpa [D.cl] using hb)
          simp [D.py, PyData.eqv, e]
      | _ => first | (exfalso; cases m <;> simp [D.cl] at hb; done) | simp [D.py, PyData.eqv]
    | dic _ _ => exfalso; simp [D.cl] at ha
    | dik _ _ => exfalso; simp [D.cl] at ha
    | pot => exfalso; simp [D.cl] at ha
    | bl _ => exfalso; simp [D.cl] at ha
    | _ => cases b <;> first | (exfalso; cases m <;> simp [D.cl] at hb; done) | simp [D.py, PyData.eqv, Bool.beq_eq_decide_eq]

/-- a dict with nested keys at p: its entries (key, the key's own tuple, value) -/
def entV (w : World) (x : NestedKey × Addr × V) (e : DictEntry) : Prop := e.hash = x.1.hash w ∧ e.key = .ref x.2.1 ∧ RelV x.2.2 e.val
def DicO (w : World) (p : Addr) (xs : List (NestedKey × Addr × V)) : HO := .ext fun h => ∃ o es ep, h.get? p = some o ∧ o.ExactDict ∧ o.data = .dict es ep ∧ Paired (entV w) xs es.toList ∧ (xs.map (·.1)).Nodup ∧ (p == sysModules) = false
/-- the law's pot at p, over the list at l: a list [l, a, b, c] whose ints may change -/
def PotO (p l : Addr) : HO := .ext fun h => ∃ (a b c : Int) (its : List Value) (n : Nat), 0 ≤ a ∧ Vals [.ref l, .int a, .int b, .int c] its ∧ h.get? p = some { cls := .type "list", data := .seq its.toArray n }
mutual
/-- a datum as a nested key -/
def D.key : D → NestedKey
  | .non => .none
  | .bl b => .num (if b then 1 else 0)
  | .int i => .num i
  | .str x => .text x
  | .tup ds => .tup (D.keys ds)
  | .lst _ => .none
  | .dic _ _ => .none
  | .dik _ _ => .none
  | .pot => .none
def D.keys : List D → List NestedKey
  | [] => []
  | d :: ds => D.key d :: D.keys ds
end
theorem D.keys_map : ∀ ds : List D, D.keys ds = ds.map D.key
  | [] => rfl
  | d :: ds => by rw [D.keys, D.keys_map ds]; rfl
/-- may stand in a key, to the depth n -/
def D.kok : Nat → D → Bool
  | _, .non => true
  | _, .int _ => true
  | _, .str _ => true
  | n + 1, .tup ds => ds.all (D.kok n)
  | _, _ => false
theorem D.key_inj : ∀ (n m : Nat) (a b : D), D.kok n a = true → D.kok m b = true → a.key = b.key → a = b := by
  intro n
  induction n with
  | zero =>
    intro m a b ha hb e
    cases a <;> first | (exfalso; simp [D.kok] at ha; done) | (cases b <;> first | (exfalso; cases m <;> simp [D.kok] at hb; done) | simp_all [D.key])
  | succ n ih =>
    intro m a b ha hb e
    cases a with
    | tup as =>
      cases b with
      | tup bs =>
        cases m with
        | zero => exfalso; simp [D.kok] at hb
        | succ m =>
          have all : ∀ (as bs : List D), as.all (D.kok n) = true → bs.all (D.kok m) = true → D.keys as = D.keys bs → as = bs := by
            intro as
            induction as with
            | nil =>
              intro bs _ _ e
              cases bs with
              | nil => rfl
              | cons b bs => simp [D.keys] at e
            | cons a as ih2 =>
              intro bs ha hb e
              cases bs with
              | nil => simp [D.keys] at e
              | cons b bs =>
                rw [List.all_cons, Bool.and_eq_true] at ha hb
                simp only [D.keys, List.cons.injEq] at e
                rw [ih m a b ha.1 hb.1 e.1, ih2 bs ha.2 hb.2 e.2]
          rw [all as bs (by simpa [D.kok] using ha) (by simpa [D.kok] using hb) (by simpa [D.key] using e)]
      | _ => first | (exfalso; cases m <;> simp [D.kok] at hb; done) | simp_all [D.key]
    | _ => first | (exfalso; simp [D.kok] at ha; done) | (cases b <;> first | (exfalso; cases m <;> simp [D.kok] at hb; done) | simp_all [D.key])
theorem D.key_depth : ∀ (n : Nat) (a : D), D.kok n a = true → a.key.depth ≤ n := by
  intro n
  induction n with
  | zero => intro a h; cases a <;> first | (exfalso; simp [D.kok] at h; done) | simp [D.key, NestedKey.depth]
  | succ n ih =>
    intro a h
    cases a with
    | tup as =>
      have all : ∀ as : List D, as.all (D.kok n) = true → NestedKey.depthAll (D.keys as) ≤ n := by
        intro as
        induction as with
        | nil => intro _; simp [D.keys, NestedKey.depthAll]
        | cons a as ih2 =>
          intro h
          rw [List.all_cons, Bool.and_eq_true] at h
          have h1 := ih a h.1
          have h2 := ih2 h.2
          simp only [D.keys, NestedKey.depthAll]
          omega
      have := all as (by simpa [D.kok] using h)
      simp only [D.key, NestedKey.depth]
      omega
    | _ => first | (exfalso; simp [D.kok] at h; done) | simp [D.key, NestedKey.depth]
/-- the keys ks are told by the entries xs -/
def KeysOk (xs : List (NestedKey × Addr × V)) (ks : List D) : Prop := xs.map (·.1) = ks.map D.key ∧ ∀ k ∈ ks, D.kok 8 k = true
mutual
inductive Rp (K : PySem.W.Frag) (w : World) (F : Hp) : V → D → Prop
  | non : Rp K w F .non .non
  | bl (b : Bool) : Rp K w F (.bl b) (.bl b)
  | int (i : Int) : Rp K w F (.int i) (.int i)
  | str (x : Str) : Rp K w F (.str x) (.str x)
  | tup {a : Addr} {xs : List V} {ds : List D} : SqT K F a xs → RpA K w F xs ds → Rp K w F (.ref a) (.tup ds)
  | lst {a : Addr} {xs : List V} {ds : List D} : F a = some (.lst xs) → RpA K w F xs ds → Rp K w F (.ref a) (.lst ds)
  /-- a dict with keys that are texts (or ints) -/
  | dicK {a : Addr} {kvs : List (Key × V)} {ks : List Str} {vs : List D} : F a = some (.dK kvs) → kvs.map (·.1) = ks.map Sum.inr → RpA K w F (kvs.map fun q => q.2) vs → Rp K w F (.ref a) (.dik ks vs)
  /-- a dict with keys that are nested tuples -/
  | dicN {a : Addr} {xs : List (NestedKey × Addr × V)} {ks vs : List D} : F a = some (DicO w a xs) → RpA K w F (xs.map fun q => .ref q.2.1) ks → RpA K w F (xs.map fun q => q.2.2) vs → KeysOk xs ks → Rp K w F (.ref a) (.dic ks vs)
  /-- the law's pot -/
  | pot {a l : Addr} {ns : List Int} : F a = some (PotO a l) → F l = some (.lst (ns.map V.int)) → Rp K w F (.ref a) .pot
inductive RpA (K : PySem.W.Frag) (w : World) (F : Hp) : List V → List D → Prop
  | nil : RpA K w F [] []
  | cons {v : V} {vs : List V} {d : D} {ds : List D} : Rp K w F v d → RpA K w F vs ds → RpA K w F (v :: vs) (d :: ds)
end
section
variable {K : PySem.W.Frag} {w : World} {F F' H H' : Hp}
theorem Same.sqT {a : Addr} {xs : List V} (e : Same F F') (h : SqT K F a xs) : SqT K F' a xs := by
  rcases h with (h | ⟨o, h⟩) | h
  · exact .inl (.inl (e _ _ h))
  · exact .inl (.inr ⟨o, e _ _ h⟩)
  · exact .inr h
mutual
theorem Rp.same (e : Same F F') : ∀ {v : V} {d : D}, Rp K w F v d → Rp K w F' v d
  | _, _, .non => .non
  | _, _, .bl b => .bl b
  | _, _, .int i => .int i
  | _, _, .str x => .str x
  | _, _, .tup h1 h2 => .tup (Same.sqT e h1) (RpA.same e h2)
  | _, _, .lst h1 h2 => .lst (e _ _ h1) (RpA.same e h2)
  | _, _, .dicK h1 h2 h3 => .dicK (e _ _ h1) h2 (RpA.same e h3)
  | _, _, .dicN h1 h2 h3 h4 => .dicN (e _ _ h1) (RpA.same e h2) (RpA.same e h3) h4
  | _, _, .pot h1 h2 => .pot (e _ _ h1) (e _ _ h2)
theorem RpA.same (e : Same F F') : ∀ {vs : List V} {ds : List D}, RpA K w F vs ds → RpA K w F' vs ds
  | _, _, .nil => .nil
  | _, _, .cons h1 h2 => .cons (Rp.same e h1) (RpA.same e h2)
end
theorem RpA.length : ∀ {vs : List V} {ds : List D}, RpA K w F vs ds → vs.length = ds.length
  | _, _, .nil => rfl
  | _, _, .cons _ h => congrArg Nat.succ (RpA.length h)
theorem RpA.append : ∀ {vs us : List V} {ds es : List D}, RpA K w F vs ds → RpA K w F us es → RpA K w F (vs ++ us) (ds ++ es)
  | _, _, _, _, .nil, h => h
  | _, _, _, _, .cons a b, h => .cons a (RpA.append b h)
theorem RpA.get : ∀ {vs : List V} {ds : List D} {i : Nat} {d : D}, RpA K w F vs ds → ds[i]? = some d → ∃ v, vs[i]? = some v ∧ Rp K w F v d
  | _, _, _, _, .nil, e => by simp at e
  | _, _, 0, _, .cons r _, e => by simp at e; subst e; exact ⟨_, rfl, r⟩
  | _, _, i + 1, d, .cons _ t, e => by
    obtain ⟨u, h1, h2⟩ := RpA.get (i := i) (d := d) t (by simpa using e)
    exact ⟨u, by simpa using h1, h2⟩
theorem RpA.getV : ∀ {vs : List V} {ds : List D} {i : Nat} {v : V}, RpA K w F vs ds → vs[i]? = some v → ∃ d, ds[i]? = some d ∧ Rp K w F v d
  | _, _, _, _, .nil, e => by simp at e
  | _, _, 0, _, .cons r _, e => by simp at e; subst e; exact ⟨_, rfl, r⟩
  | _, _, i + 1, v, .cons _ t, e => by
    obtain ⟨u, h1, h2⟩ := RpA.getV (i := i) (v := v) t (by simpa using e)
    exact ⟨u, by simpa using h1, h2⟩
theorem RpA.take : ∀ {vs : List V} {ds : List D} (n : Nat), RpA K w F vs ds → RpA K w F (vs.take n) (ds.take n)
  | _, _, 0, _ => .nil
  | _, _, _ + 1, .nil => .nil
  | _, _, n + 1, .cons a b => .cons a (RpA.take n b)
theorem RpA.drop : ∀ {vs : List V} {ds : List D} (n : Nat), RpA K w F vs ds → RpA K w F (vs.drop n) (ds.drop n)
  | _, _, 0, h => h
  | _, _, _ + 1, .nil => .nil
  | _, _, n + 1, .cons a b => RpA.drop n b
theorem RpA.reverse {vs : List V} {ds : List D} (h : RpA K w F vs ds) : RpA K w F vs.reverse ds.reverse := by
  induction vs generalizing ds with
  | nil => cases h; exact .nil
  | cons v vs ih =>
    cases h with
    | cons a b =>
      rw [List.reverse_cons, List.reverse_cons]
      exact RpA.append (ih b) (.cons a .nil)
theorem RpA.dropLast {vs : List V} {ds : List D} (h : RpA K w F vs ds) : RpA K w F vs.dropLast ds.dropLast := by
  rw [List.dropLast_eq_take, List.dropLast_eq_take, h.length]
  exact h.take _
theorem RpA.one {v : V} {d : D} (h : Rp K w F v d) : RpA K w F [v] [d] := .cons h .nil
/-- ints, texts, truth values: the values -/
theorem RpA.ints : ∀ {vs : List V} {ns : List Int}, RpA K w F vs (ns.map D.int) → vs = ns.map V.int
  | _, [], h => by cases h; rfl
  | _, n :: ns, h => by
    cases h with
    | cons a b =>
      cases a
      rw [RpA.ints b]
      rfl
theorem RpA.strs : ∀ {vs : List V} {ns : List Str}, RpA K w F vs (ns.map D.str) → vs = ns.map V.str
  | _, [], h => by cases h; rfl
  | _, n :: ns, h => by
    cases h with
    | cons a b =>
      cases a
      rw [RpA.strs b]
      rfl
theorem RpA.bls : ∀ {vs : List V} {ns : List Bool}, RpA K w F vs (ns.map D.bl) → vs = ns.map V.bl
  | _, [], h => by cases h; rfl
  | _, n :: ns, h => by
    cases h with
    | cons a b =>
      cases a
      rw [RpA.bls b]
      rfl
theorem RpA.of_ints : ∀ (ns : List Int), RpA K w F (ns.map V.int) (ns.map D.int)
  | [] => .nil
  | n :: ns => .cons (.int n) (RpA.of_ints ns)
theorem RpA.of_strs : ∀ (ns : List Str), RpA K w F (ns.map V.str) (ns.map D.str)
  | [] => .nil
  | n :: ns => .cons (.str n) (RpA.of_strs ns)
mutual
theorem Rp.dp (e : Same F H) : ∀ {v : V} {d : D}, (∀ ks vs, d ≠ .dic ks vs) ∧ (∀ ks vs, d ≠ .dik ks vs) → D.cln d = true ∨ True → Rp K w F v d → (∃ n, D.cl n d = true) → Dp K H v d.py
  | _, _, _, _, .non, _ => .non
  | _, _, _, _, .bl b, _ => .bl b
  | _, _, _, _, .int i, _ => .int i
  | _, _, _, _, .str x, _ => .str x
  | _, _, _, _, .tup h1 h2, hc => .tup (Same.sqT e h1) (RpA.dp e h2 (by
      obtain ⟨n, hn⟩ := hc
      cases n with
      | zero => simp [D.cl] at hn
      | succ n => exact ⟨n, by simpa [D.cl] using hn⟩))
  | _, _, _, _, .lst h1 h2, hc => .lst (SqL.of (e _ _ h1)) (RpA.dp e h2 (by
      obtain ⟨n, hn⟩ := hc
      cases n with
      | zero => simp [D.cl] at hn
      | succ n => exact ⟨n, by simpa [D.cl] using hn⟩))
  | _, _, hd, _, .dicK _ _ _, _ => absurd rfl (hd.2 _ _)
  | _, _, hd, _, .dicN _ _ _ _, _ => absurd rfl (hd.1 _ _)
  | _, _, _, _, .pot _ _, hc => by
      obtain ⟨n, hn⟩ := hc
      cases n <;> simp [D.cl] at hn
theorem RpA.dp (e : Same F H) : ∀ {vs : List V} {ds : List D}, RpA K w F vs ds → (∃ n, ∀ d ∈ ds, D.cl n d = true) → DpAll K H vs (D.pys ds)
  | _, _, .nil, _ => .nil
  | _, _, .cons (d := d) h1 h2, hc => .cons (Rp.dp e ⟨fun ks vs q => by
      obtain ⟨n, hn⟩ := hc
      have := hn d (List.mem_cons_self ..)
      rw [q] at this
      cases n <;> simp [D.cl] at this, fun ks vs q => by
      obtain ⟨n, hn⟩ := hc
      have := hn d (List.mem_cons_self ..)
      rw [q] at this
      cases n <;> simp [D.cl] at this⟩ (.inr trivial) h1 (by
      obtain ⟨n, hn⟩ := hc
      exact ⟨n, hn d (List.mem_cons_self ..)⟩)) (RpA.dp e h2 (by
      obtain ⟨n, hn⟩ := hc
      exact ⟨n, fun x hx => hn x (List.mem_cons_of_mem _ hx)⟩))
end
theorem Rp.toDp {v : V} {d : D} (e : Same F H) (r : Rp K w F v d) {n : Nat} (h : D.cl n d = true) : Dp K H v d.py :=
  Rp.dp e ⟨fun ks vs q => by rw [q] at h; cases n <;> simp [D.cl] at h, fun ks vs q => by rw [q] at h; cases n <;> simp [D.cl] at h⟩ (.inr trivial) r ⟨n, h⟩
end
end PL
end

section
set_option Elab.async false
set_option linter.all false
set_option maxRecDepth 100000
set_option maxHeartbeats 2000000
set_option autoImplicit false
namespace PL
open PySem PySem.Spec PyProof.Rows L2

structure Nw (F H F' H' : Hp) : Prop where
  ff : Same F F'
  hh : Same H H'
  fh : Same F' H'
  nw : ∀ p o, H p = some o → Mut (some o) → F p = none → F' p = none
structure Gr (G F F' : Hp) : Prop where
  ff : Same F F'
  nw : ∀ p o, G p = some o → Mut (some o) → F p = none → F' p = none
section
variable {G F H F' H' F2 H2 : Hp}
theorem Nw.refl (h : Same F H) : Nw F H F H := ⟨Same.refl _, Same.refl _, h, fun _ _ _ _ e => e⟩
theorem Nw.trans (a : Nw F H F' H') (b : Nw F' H' F2 H2) : Nw F H F2 H2 :=
  ⟨a.ff.trans b.ff, a.hh.trans b.hh, b.fh, fun p o h m e => b.nw p o (a.hh p o h) m (a.nw p o h m e)⟩
theorem Gr.refl : Gr G F F := ⟨Same.refl _, fun _ _ _ _ e => e⟩
theorem Gr.trans (a : Gr G F F') (b : Gr G F' F2) : Gr G F F2 := ⟨a.ff.trans b.ff, fun p o h m e => b.nw p o h m (a.nw p o h m e)⟩
theorem Nw.gr (n : Nw F H F' H') (g : Same G H) : Gr G F F' := ⟨n.ff, fun p o h m e => n.nw p o (g p o h) m e⟩
theorem same_new {p : Addr} {o : HO} (h : H p = none) : Same H (upd H p o) := fun a u e => by
  rw [upd_ne (ne_of_none e h)]
  exact e
theorem none_of_same (e : Same F H) {p : Addr} (h : H p = none) : F p = none := by
  cases q : F p with
  | none => rfl
  | some o => rw [e p o q] at h; cases h
/-- a new thing that may be read -/
theorem Nw.new {p : Addr} {o : HO} (h : Same F H) (hp : H p = none) : Nw F H (upd F p o) (upd H p o) := by
  have fp := none_of_same h hp
  refine ⟨same_new fp, same_new hp, fun a u e => ?_, fun a u e _ e2 => ?_⟩
  · by_cases q : a = p
    · subst q
      rw [upd_same] at e ⊢
      exact e
    · rw [upd_ne q] at e ⊢
      exact h a u e
  · have q : a ≠ p := fun z => by subst z; rw [hp] at e; cases e
    rw [upd_ne q]
    exact e2
/-- a new thing of one's own -/
theorem Nw.own {p : Addr} {o : HO} (h : Same F H) (hp : H p = none) : Nw F H F (upd H p o) :=
  ⟨Same.refl _, same_new hp, h.trans (same_new hp), fun _ _ _ _ e => e⟩
/-- a thing of one's own, new since H, may now be read -/
theorem Nw.fz {p : Addr} {o : HO} (n : Nw F H F' H') (hp : H p = none) (fp : F' p = none) (e : H' p = some o) : Nw F H (upd F' p o) H' := by
  refine ⟨n.ff.trans (same_new fp), n.hh, fun a u q => ?_, fun a u q m q2 => ?_⟩
  · by_cases z : a = p
    · subst z
      rw [upd_same] at q
      cases q
      exact e
    · rw [upd_ne z] at q
      exact n.fh a u q
  · have z : a ≠ p := fun z => by subst z; rw [hp] at q; cases q
    rw [upd_ne z]
    exact n.nw a u q m q2
end

/-- what a slot stands for: a datum; a list, a dict of one's own (nobody else holds it) -/
inductive PV where
  | d (x : D) | own (xs : List D) | odic (ks vs : List D)
abbrev PEnv := List (Option PV)
def PV.owns : PV → Bool
  | .d _ => false
  | _ => true
def PV.dat : PV → D
  | .d x => x
  | .own xs => .lst xs
  | .odic ks vs => .dic ks vs
@[simp] theorem PV.dat_d (x : D) : (PV.d x).dat = x := rfl
@[simp] theorem PV.dat_own (x : List D) : (PV.own x).dat = .lst x := rfl
@[simp] theorem PV.dat_odic (x y : List D) : (PV.odic x y).dat = .dic x y := rfl
def Sv (K : PySem.W.Frag) (w : World) (G F H : Hp) (v : V) : PV → Prop
  | .d x => Rp K w F v x
  | .own xs => ∃ p vs, v = .ref p ∧ G p = none ∧ F p = none ∧ H p = some (.lst vs) ∧ RpA K w F vs xs
  | .odic ks vs => ∃ p xs, v = .ref p ∧ G p = none ∧ F p = none ∧ H p = some (DicO w p xs) ∧ RpA K w F (xs.map fun q => .ref q.2.1) ks ∧ RpA K w F (xs.map fun q => q.2.2) vs ∧ KeysOk xs ks
structure Rep (K : PySem.W.Frag) (w : World) (G F : Hp) (ρ : PEnv) (σ : L2.St) (H : Hp) : Prop where
  gh : Same G H
  fh : Same F H
  len : ρ.length = σ.length
  at_ : ∀ (i : Nat) (pv : PV), ρ[i]? = some (some pv) → ∃ v, σ[i]? = some (some v) ∧ Sv K w G F H v pv
  sep : ∀ (i j : Nat) (p q : PV) (v : V), ρ[i]? = some (some p) → ρ[j]? = some (some q) → p.owns = true → q.owns = true → σ[i]? = some (some v) → σ[j]? = some (some v) → i = j
section
variable {K : PySem.W.Frag} {w : World} {G F H F' H' : Hp} {ρ : PEnv} {σ : L2.St}
theorem Sv.nw {v : V} {pv : PV} (g : Same G H) (n : Nw F H F' H') (h : Sv K w G F H v pv) : Sv K w G F' H' v pv := by
  cases pv with
  | d x => exact Rp.same n.ff h
  | own xs =>
    obtain ⟨p, vs, e, h1, h2, h3, h4⟩ := h
    exact ⟨p, vs, e, h1, n.nw p _ h3 trivial h2, n.hh _ _ h3, RpA.same n.ff h4⟩
  | odic ks vs =>
    obtain ⟨p, xs, e, h1, h2, h3, h4, h5, h6⟩ := h
    exact ⟨p, xs, e, h1, n.nw p _ h3 trivial h2, n.hh _ _ h3, RpA.same n.ff h4, RpA.same n.ff h5, h6⟩
theorem Rep.nw (R : Rep K w G F ρ σ H) (n : Nw F H F' H') : Rep K w G F' ρ σ H' :=
  ⟨R.gh.trans n.hh, n.fh, R.len, fun i pv e => by
    obtain ⟨v, h1, h2⟩ := R.at_ i pv e
    exact ⟨v, h1, h2.nw R.gh n⟩, R.sep⟩
theorem set_get {α : Type} {l : List α} {i j : Nat} {x y : α} (h : (l.set i x)[j]? = some y) : (j = i ∧ y = x ∧ i < l.length) ∨ (j ≠ i ∧ l[j]? = some y) := by
  by_cases e : j = i
  · subst e
    rw [List.getElem?_set] at h
    simp only [if_true] at h
    by_cases q : j < l.length
    · rw [if_pos q] at h
      exact .inl ⟨rfl, (Option.some.inj h).symm, q⟩
    · rw [if_neg q] at h
      cases h
  · rw [List.getElem?_set_ne (Ne.symm e)] at h
    exact .inr ⟨e, h⟩
/-- a datum is stored -/
theorem Rep.setD (R : Rep K w G F ρ σ H) (i : Nat) {v : V} {x : D} (r : Rp K w F v x) : Rep K w G F (ρ.set i (some (.d x))) (σ.set i (some v)) H := by
  refine ⟨R.gh, R.fh, by simpa using R.len, fun j pv e => ?_, fun a b p q u ea eb oa ob sa sb => ?_⟩
  · rcases set_get e with ⟨rfl, e1, hl⟩ | ⟨hj, e1⟩
    · cases e1
      exact ⟨v, by rw [List.getElem?_set]; simp [← R.len, hl], r⟩
    · obtain ⟨u, h1, h2⟩ := R.at_ j pv e1
      exact ⟨u, by rw [List.getElem?_set_ne (Ne.symm hj)]; exact h1, h2⟩
  · rcases set_get ea with ⟨_, e1, _⟩ | ⟨ha, e1⟩
    · cases e1; cases oa
    · rcases set_get eb with ⟨_, e2, _⟩ | ⟨hb, e2⟩
      · cases e2; cases ob
      · rw [List.getElem?_set_ne (Ne.symm ha)] at sa
        rw [List.getElem?_set_ne (Ne.symm hb)] at sb
        exact R.sep a b p q u e1 e2 oa ob sa sb
/-- a slot forgotten -/
theorem Rep.drop (R : Rep K w G F ρ σ H) (i : Nat) : Rep K w G F (ρ.set i none) σ H := by
  have old : ∀ (j : Nat) (pv : PV), (ρ.set i none)[j]? = some (some pv) → ρ[j]? = some (some pv) := fun j pv e => by
    rcases set_get e with ⟨_, e1, _⟩ | ⟨_, e1⟩
    · cases e1
    · exact e1
  exact ⟨R.gh, R.fh, by simpa using R.len, fun j pv e => R.at_ j pv (old j pv e), fun a b p q u ea eb oa ob sa sb => R.sep a b p q u (old a p ea) (old b q eb) oa ob sa sb⟩
theorem Sv.there {v : V} {pv : PV} (h : Sv K w G F H v pv) (o : pv.owns = true) : ∃ p, v = .ref p ∧ G p = none ∧ F p = none ∧ ∃ u, H p = some u := by
  cases pv with
  | d x => cases o
  | own xs => obtain ⟨p, vs, e, h1, h2, h3, _⟩ := h; exact ⟨p, e, h1, h2, _, h3⟩
  | odic ks vs => obtain ⟨p, xs, e, h1, h2, h3, _⟩ := h; exact ⟨p, e, h1, h2, _, h3⟩
/-- a thing of one's own that no slot holds is stored -/
theorem Rep.setO (R : Rep K w G F ρ σ H) (i : Nat) {p : Addr} {pv : PV} (s : Sv K w G F H (.ref p) pv) (n : ∀ (j : Nat) (q : PV), ρ[j]? = some (some q) → q.owns = true → σ[j]? ≠ some (some (.ref p))) :
    Rep K w G F (ρ.set i (some pv)) (σ.set i (some (.ref p))) H := by
  refine ⟨R.gh, R.fh, by simpa using R.len, fun j q e => ?_, fun a b x y u ea eb oa ob sa sb => ?_⟩
  · rcases set_get e with ⟨rfl, e1, hl⟩ | ⟨hj, e1⟩
    · cases e1
      exact ⟨.ref p, by rw [List.getElem?_set]; simp [← R.len, hl], s⟩
    · obtain ⟨u, h1, h2⟩ := R.at_ j q e1
      exact ⟨u, by rw [List.getElem?_set_ne (Ne.symm hj)]; exact h1, h2⟩
  · rcases set_get ea with ⟨ra, e1, hl⟩ | ⟨ha, e1⟩
    · rcases set_get eb with ⟨rb, e2, _⟩ | ⟨hb, e2⟩
      · rw [ra, rb]
      · subst ra
        rw [List.getElem?_set] at sa
        simp only [if_true] at sa
        rw [if_pos (by rw [← R.len]; exact hl)] at sa
        rw [List.getElem?_set_ne (Ne.symm hb)] at sb
        cases sa
        exact absurd sb (n b y e2 ob)
    · rw [List.getElem?_set_ne (Ne.symm ha)] at sa
      rcases set_get eb with ⟨rb, e2, hl⟩ | ⟨hb, e2⟩
      · subst rb
        rw [List.getElem?_set] at sb
        simp only [if_true] at sb
        rw [if_pos (by rw [← R.len]; exact hl)] at sb
        cases sb
        exact absurd sa (n a x e1 oa)
      · rw [List.getElem?_set_ne (Ne.symm hb)] at sb
        exact R.sep a b x y u e1 e2 oa ob sa sb
/-- a new thing is held by no slot -/
theorem Rep.fresh (R : Rep K w G F ρ σ H) {p : Addr} (hp : H p = none) : ∀ (j : Nat) (q : PV), ρ[j]? = some (some q) → q.owns = true → σ[j]? ≠ some (some (.ref p)) := fun j q e o z => by
  obtain ⟨v, h1, h2⟩ := R.at_ j q e
  obtain ⟨p', e', _, _, u, hu⟩ := h2.there o
  rw [z] at h1
  cases h1
  cases e'
  rw [hp] at hu
  cases hu
/-- the thing of one's own in the slot i is changed -/
theorem Rep.mut (R : Rep K w G F ρ σ H) {i : Nat} {p : Addr} {pv pv' : PV} {o : HO} (e : ρ[i]? = some (some pv)) (ho : pv.owns = true) (es : σ[i]? = some (some (.ref p))) (hg : G p = none) (hf : F p = none)
    (s : Sv K w G F (upd H p o) (.ref p) pv') : Rep K w G F (ρ.set i (some pv')) σ (upd H p o) := by
  have up : ∀ {A : Hp}, Same A H → A p = none → Same A (upd H p o) := fun {A} g n a u q => by
    rw [upd_ne (ne_of_none q n)]
    exact g a u q
  refine ⟨up R.gh hg, up R.fh hf, by simpa using R.len, fun j q ej => ?_, fun a b x y u ea eb oa ob sa sb => ?_⟩
  · rcases set_get ej with ⟨rfl, e1, hl⟩ | ⟨hj, e1⟩
    · cases e1
      exact ⟨.ref p, es, s⟩
    · obtain ⟨v, h1, h2⟩ := R.at_ j q e1
      refine ⟨v, h1, ?_⟩
      have ne : ∀ b, q.owns = true → v = .ref b → b ≠ p := fun b oq ev z => by
        subst z
        subst ev
        exact hj (R.sep j i q pv _ e1 e oq ho h1 es)
      cases q with
      | d x => exact h2
      | own xs =>
        obtain ⟨b, vs, ev, q1, q2, q3, q4⟩ := h2
        exact ⟨b, vs, ev, q1, q2, by rw [upd_ne (ne b rfl ev)]; exact q3, q4⟩
      | odic ks vs =>
        obtain ⟨b, xs, ev, q1, q2, q3, q4⟩ := h2
        exact ⟨b, xs, ev, q1, q2, by rw [upd_ne (ne b rfl ev)]; exact q3, q4⟩
  · have old : ∀ (j : Nat) (x : PV), (ρ.set i (some pv'))[j]? = some (some x) → x.owns = true → ∃ x', ρ[j]? = some (some x') ∧ x'.owns = true := fun j x ej oj => by
      rcases set_get ej with ⟨rfl, e1, _⟩ | ⟨_, e1⟩
      · exact ⟨pv, e, ho⟩
      · exact ⟨x, e1, oj⟩
    obtain ⟨x', e1, o1⟩ := old a x ea oa
    obtain ⟨y', e2, o2⟩ := old b y eb ob
    exact R.sep a b x' y' u e1 e2 o1 o2 sa sb
/-- the thing of one's own in the slot i may from now on be read alone -/
theorem Rep.fz (R : Rep K w G F ρ σ H) {i : Nat} {pv : PV} (e : ρ[i]? = some (some pv)) (ho : pv.owns = true) :
    ∃ F', Gr G F F' ∧ Rep K w G F' (ρ.set i (some (.d pv.dat))) σ H := by
  obtain ⟨v, es, s⟩ := R.at_ i pv e
  obtain ⟨p, rfl, hg, hf, u, hu⟩ := s.there ho
  have ff : Same F (upd F p u) := same_new hf
  have fh : Same (upd F p u) H := fun a o q => by
    by_cases z : a = p
    · subst z; rw [upd_same] at q; cases q; exact hu
    · rw [upd_ne z] at q; exact R.fh a o q
  refine ⟨upd F p u, ⟨ff, fun a o q _ q2 => ?_⟩, R.gh, fh, by simpa using R.len, fun j q ej => ?_, fun a b x y z ea eb oa ob sa sb => ?_⟩
  · rw [upd_ne (ne_of_none q hg)]
    exact q2
  · rcases set_get ej with ⟨rfl, e1, hl⟩ | ⟨hj, e1⟩
    · cases e1
      refine ⟨.ref p, es, ?_⟩
      cases pv with
      | d x => cases ho
      | own xs =>
        obtain ⟨p', vs, ev, _, _, q3, q4⟩ := s
        cases ev
        rw [hu] at q3
        cases q3
        exact .lst upd_same (RpA.same ff q4)
      | odic ks vs =>
        obtain ⟨p', xs, ev, _, _, q3, q4, q5, q6⟩ := s
        cases ev
        rw [hu] at q3
        cases q3
        exact .dicN upd_same (RpA.same ff q4) (RpA.same ff q5) q6
    · obtain ⟨v, h1, h2⟩ := R.at_ j q e1
      refine ⟨v, h1, ?_⟩
      have ne : ∀ b, q.owns = true → v = .ref b → b ≠ p := fun b oq ev z => by
        subst z
        subst ev
        exact hj (R.sep j i q pv _ e1 e oq ho h1 es)
      cases q with
      | d x => exact Rp.same ff h2
      | own xs =>
        obtain ⟨b, vs, ev, q1, q2, q3, q4⟩ := h2
        exact ⟨b, vs, ev, q1, by rw [upd_ne (ne b rfl ev)]; exact q2, q3, RpA.same ff q4⟩
      | odic ks vs =>
        obtain ⟨b, xs, ev, q1, q2, q3, q4, q5, q6⟩ := h2
        exact ⟨b, xs, ev, q1, by rw [upd_ne (ne b rfl ev)]; exact q2, q3, RpA.same ff q4, RpA.same ff q5, q6⟩
  · have old : ∀ (j : Nat) (x : PV), (ρ.set i (some (PV.d pv.dat)))[j]? = some (some x) → x.owns = true → ρ[j]? = some (some x) := fun j x ej oj => by
      rcases set_get ej with ⟨rfl, e1, _⟩ | ⟨_, e1⟩
      · cases e1; cases oj
      · exact e1
    exact R.sep a b x y z (old a x ea oa) (old b y eb ob) oa ob sa sb
end

abbrev TX := PEnv → (D → Prop) → Prop
abbrev TXT := PEnv → (Bool → Prop) → Prop
abbrev TXA := PEnv → (List PV → Prop) → Prop
abbrev TXR := PEnv → (PV → Prop) → Prop
section
variable (K : PySem.W.Frag) (w : World)
/-- what follows an expression: a datum that stays -/
def Post (F H : Hp) (k : D → Prop) (Q : VK) : Prop := ∀ x v F' H', k x → Nw F H F' H' → Rp K w F' v x → Q v H'
def liftE (t : TX) : TE := fun σ H Q => ∃ G F ρ k, Rep K w G F ρ σ H ∧ t ρ k ∧ Post K w F H k Q
def liftT (t : TXT) : TT := fun σ H Q => ∃ G F ρ k, Rep K w G F ρ σ H ∧ t ρ k ∧ ∀ b F' H', k b → Nw F H F' H' → Q b H'
/-- a value that may be read just now -/
def Rd1 (F H : Hp) (v : V) : PV → Prop
  | .d x => Rp K w F v x
  | .own xs => ∃ p vs, v = .ref p ∧ H p = some (.lst vs) ∧ F p = none ∧ RpA K w F vs xs
  | .odic ks vs => ∃ p xs, v = .ref p ∧ H p = some (DicO w p xs) ∧ F p = none ∧ RpA K w F (xs.map fun q => .ref q.2.1) ks ∧ RpA K w F (xs.map fun q => q.2.2) vs ∧ KeysOk xs ks
def liftR (t : TXR) : TE := fun σ H Q => ∃ G F ρ k, Rep K w G F ρ σ H ∧ t ρ k ∧ ∀ pv v F' H', k pv → Nw F H F' H' → Rd1 K w F' H' v pv → Q v H'
/-- a new list -/
def liftF (t : PEnv → (List D → Prop) → Prop) : TE := fun σ H Q => ∃ G F ρ k, Rep K w G F ρ σ H ∧ t ρ k ∧
  ∀ xs vs p F' H', k xs → Nw F H F' H' → H p = none → F' p = none → H' p = some (.lst vs) → RpA K w F' vs xs → Q (.ref p) H'
inductive RdA (F H : Hp) : List V → List PV → Prop
  | nil : RdA F H [] []
  | cons {v : V} {vs : List V} {d : PV} {ds : List PV} : Rd1 K w F H v d → RdA F H vs ds → RdA F H (v :: vs) (d :: ds)
def liftA (t : TXA) : TA := fun σ H Q => ∃ G F ρ k, Rep K w G F ρ σ H ∧ t ρ k ∧ ∀ pvs vs F' H', k pvs → Nw F H F' H' → RdA K w F' H' vs pvs → Q vs H'
end
section
variable {K : PySem.W.Frag} {w : World} {F H F' H' : Hp}
theorem Rd1.nw {v : V} {pv : PV} (h : Rd1 K w F H v pv) (n : Nw F H F' H') : Rd1 K w F' H' v pv := by
  cases pv with
  | d x => exact Rp.same n.ff h
  | own xs => obtain ⟨p, vs, e, h1, h2, h3⟩ := h; exact ⟨p, vs, e, n.hh _ _ h1, n.nw p _ h1 trivial h2, RpA.same n.ff h3⟩
  | odic ks vs => obtain ⟨p, xs, e, h1, h2, h3, h4, h5⟩ := h; exact ⟨p, xs, e, n.hh _ _ h1, n.nw p _ h1 trivial h2, RpA.same n.ff h3, RpA.same n.ff h4, h5⟩
theorem RdA.nw {vs : List V} {ds : List PV} (h : RdA K w F H vs ds) (n : Nw F H F' H') : RdA K w F' H' vs ds := by
  induction h with
  | nil => exact .nil
  | cons a _ ih => exact .cons (a.nw n) ih
/-- as read in the whole heap -/
theorem Rd1.full {v : V} {pv : PV} (h : Rd1 K w F H v pv) (fh : Same F H) : Rp K w H v pv.dat := by
  cases pv with
  | d x => exact Rp.same fh h
  | own xs => obtain ⟨p, vs, rfl, h1, _, h3⟩ := h; exact .lst h1 (RpA.same fh h3)
  | odic ks vs => obtain ⟨p, xs, rfl, h1, _, h3, h4, h5⟩ := h; exact .dicN h1 (RpA.same fh h3) (RpA.same fh h4) h5
end
abbrev PX (X : Cx) (e : Expr) (t : TX) : Prop := PE X e (liftE X.K X.w t)
abbrev PXT (X : Cx) (e : Expr) (t : TXT) : Prop := PT X e (liftT X.K X.w t)
abbrev PXW (X : Cx) (e : Expr) (t : TXT) : Prop := PW X e (liftT X.K X.w t)
abbrev PR (X : Cx) (e : Expr) (t : TXR) : Prop := PE X e (liftR X.K X.w t)
abbrev PF (X : Cx) (e : Expr) (t : PEnv → (List D → Prop) → Prop) : Prop := PE X e (liftF X.K X.w t)
abbrev PXA (X : Cx) (es : List Expr) (t : TXA) : Prop := PA X es (liftA X.K X.w t)
section
variable {X : Cx} {e : Expr}
theorem PE.weak {te te' : TE} (h : PE X e te) (i : ∀ σ H Q, te' σ H Q → te σ H Q) : PE X e te' := ⟨fun pins s σ H Q I q => h.run pins s σ H Q I (i σ H Q q)⟩
theorem PT.weak {te te' : TT} (h : PT X e te) (i : ∀ σ H Q, te' σ H Q → te σ H Q) : PT X e te' := ⟨fun pins s σ H Q I q => h.run pins s σ H Q I (i σ H Q q)⟩
theorem PW.weak {te te' : TT} (h : PW X e te) (i : ∀ σ H Q, te' σ H Q → te σ H Q) : PW X e te' := ⟨fun wh pins s σ H Q I q => h.run wh pins s σ H Q I (i σ H Q q)⟩
theorem PA.weak {es : List Expr} {te te' : TA} (h : PA X es te) (i : ∀ σ H Q, te' σ H Q → te σ H Q) : PA X es te' := ⟨fun pos pins s σ H Q I q => h.run pos pins s σ H Q I (i σ H Q q)⟩
end
end PL
end

section
set_option Elab.async false
set_option linter.all false
set_option maxRecDepth 100000
set_option maxHeartbeats 2000000
set_option autoImplicit false
namespace PL
open PySem PySem.Spec PyProof.Rows L2

def xD (o : Option (Option PV)) (k : D → Prop) : Prop := match o with
  | some (some (.d x)) => k x
  | _ => False
def xP (o : Option (Option PV)) (k : PV → Prop) : Prop := match o with
  | some (some p) => k p
  | _ => False
def xVar (i : Nat) : TX := fun ρ k => xD ρ[i]? k
def rVar (i : Nat) : TXR := fun ρ k => xP ρ[i]? k
def xC (d : D) : TX := fun _ k => k d
def rOf (t : TX) : TXR := fun ρ k => t ρ fun x => k (.d x)
def xOfF (t : PEnv → (List D → Prop) → Prop) : TX := fun ρ k => t ρ fun xs => k (.lst xs)
section
variable {X : Cx} {e : Expr} {pos : Pos}
theorem Rd1.of {K : PySem.W.Frag} {w : World} {G F H : Hp} {v : V} {pv : PV} (s : Sv K w G F H v pv) : Rd1 K w F H v pv := by
  cases pv with
  | d x => exact s
  | own xs => obtain ⟨p, vs, e, _, h2, h3, h4⟩ := s; exact ⟨p, vs, e, h3, h2, h4⟩
  | odic ks vs => obtain ⟨p, xs, e, _, h2, h3, h4⟩ := s; exact ⟨p, xs, e, h3, h2, h4⟩
theorem xD_some {o : Option (Option PV)} {k : D → Prop} (h : xD o k) : ∃ x, o = some (some (.d x)) ∧ k x := by
  unfold xD at h
  split at h
  · exact ⟨_, rfl, h⟩
  · exact h.elim
theorem xP_some {o : Option (Option PV)} {k : PV → Prop} (h : xP o k) : ∃ x, o = some (some x) ∧ k x := by
  unfold xP at h
  split at h
  · exact ⟨_, rfl, h⟩
  · exact h.elim
theorem lift_var {K : PySem.W.Frag} {w : World} {i : Nat} (σ : L2.St) (H : Hp) (Q : VK) (h : liftE K w (xVar i) σ H Q) : tVar i σ H Q := by
  obtain ⟨G, F, ρ, k, R, ht, hp⟩ := h
  obtain ⟨x, e, hk⟩ := xD_some ht
  obtain ⟨v, e2, s⟩ := R.at_ i _ e
  exact ⟨v, e2, hp x v F H hk (.refl R.fh) s⟩
theorem liftR_var {K : PySem.W.Frag} {w : World} {i : Nat} (σ : L2.St) (H : Hp) (Q : VK) (h : liftR K w (rVar i) σ H Q) : tVar i σ H Q := by
  obtain ⟨G, F, ρ, k, R, ht, hp⟩ := h
  obtain ⟨x, e, hk⟩ := xP_some ht
  obtain ⟨v, e2, s⟩ := R.at_ i _ e
  exact ⟨v, e2, hp x v F H hk (.refl R.fh) (.of s)⟩
theorem px_var (i : Nat) {x : Str} (hN : X.N[i]? = some x := by rfl) (hv : Vis X.env.scope x := by first | exact Or.inl rfl | exact Or.inr (Or.inl rfl) | exact Or.inr (Or.inr rfl)) (hd : (x == ("__debug__" : Str)) = false := by decide)
    (hcd : (x == ("__classdict__" : Str)) = false := by decide) : PX X (.Name x pos) (xVar i) := PE.weak (pe_var hN hv hd hcd) lift_var
theorem pr_var (i : Nat) {x : Str} (hN : X.N[i]? = some x := by rfl) (hv : Vis X.env.scope x := by first | exact Or.inl rfl | exact Or.inr (Or.inl rfl) | exact Or.inr (Or.inr rfl)) (hd : (x == ("__debug__" : Str)) = false := by decide)
    (hcd : (x == ("__classdict__" : Str)) = false := by decide) : PR X (.Name x pos) (rVar i) := PE.weak (pe_var hN hv hd hcd) liftR_var
theorem lift_c {K : PySem.W.Frag} {w : World} {v : V} {d : D} (r : ∀ F, Rp K w F v d) (σ : L2.St) (H : Hp) (Q : VK) (h : liftE K w (xC d) σ H Q) : tC v σ H Q := by
  obtain ⟨G, F, ρ, k, R, ht, hp⟩ := h
  exact hp d v F H ht (.refl R.fh) (r F)
theorem px_int {i : Int} {j : Nat} : PX X (.Constant (.int i) j pos) (xC (.int i)) := PE.weak pe_int (lift_c fun _ => .int i)
theorem px_bl {b : Bool} {j : Nat} : PX X (.Constant (.bool b) j pos) (xC (.bl b)) := PE.weak pe_bl (lift_c fun _ => .bl b)
theorem px_non {j : Nat} : PX X (.Constant .none j pos) (xC .non) := PE.weak pe_non (lift_c fun _ => .non)
theorem px_str {x : Str} {j : Nat} : PX X (.Constant (.str x) j pos) (xC (.str x)) := PE.weak pe_str (lift_c fun _ => .str x)
/-- a text of the module -/
theorem px_gstr {x z : Str} {t : Tok} (hg : Gl X x) (hm : X.mg x = some (.str z t)) (hd : (x == ("__debug__" : Str)) = false := by decide) : PX X (.Name x pos) (xC (.str z)) := PE.weak (pe_glob (v := .str z) hg hm ⟨_, rfl⟩ hd) (lift_c fun _ => .str z)
theorem pr_of {t : TX} (h : PX X e t) : PR X e (rOf t) := PE.weak h fun σ H Q ⟨G, F, ρ, k, R, ht, hp⟩ => ⟨G, F, ρ, _, R, ht, fun x v F' H' hx n r => hp (.d x) v F' H' hx n r⟩
/-- a new list that is not one's own -/
theorem px_of {t : PEnv → (List D → Prop) → Prop} (h : PF X e t) : PX X e (xOfF t) := PE.weak h fun σ H Q ⟨G, F, ρ, k, R, ht, hp⟩ => ⟨G, F, ρ, _, R, ht, fun xs vs p F' H' hx n hp0 fp hv r =>
  hp (.lst xs) (.ref p) (upd F' p (.lst vs)) H' hx (n.fz hp0 fp hv) (.lst upd_same (RpA.same (same_new fp) r))⟩
end

abbrev Op2 := D → D → (D → Prop) → Prop
def xBin (g : Op2) (ta tb : TX) : TX := fun ρ k => ta ρ fun x => tb ρ fun y => g x y k
def rD (K : PySem.W.Frag) (w : World) (g : Op2) : R2 := fun v u H Q => ∃ F x y k, Same F H ∧ Rp K w F v x ∧ Rp K w F u y ∧ g x y k ∧ Post K w F H k Q
theorem lift_bin {K : PySem.W.Frag} {w : World} {g : Op2} {ta tb : TX} (σ : L2.St) (H : Hp) (Q : VK) (h : liftE K w (xBin g ta tb) σ H Q) : tOp (rD K w g) (liftE K w ta) (liftE K w tb) σ H Q := by
  obtain ⟨G, F, ρ, k, R, ht, hp⟩ := h
  exact ⟨G, F, ρ, _, R, ht, fun x v F1 H1 hx n1 r1 => ⟨G, F1, ρ, _, R.nw n1, hx, fun y u F2 H2 hy n2 r2 => ⟨F2, x, y, k, n2.fh, Rp.same n2.ff r1, r2, hy, fun z v' F3 H3 hz n3 r3 => hp z v' F3 H3 hz ((n1.trans n2).trans n3) r3⟩⟩⟩
section
variable {X : Cx} {a b : Expr} {ta tb : TX} {pos : Pos} {g : Op2}
theorem px_bin {op : Operator} (ho : OpR X (binaryOp op) (rD X.K X.w g)) (ha : PX X a ta) (hb : PX X b tb) : PX X (.BinOp a op b pos) (xBin g ta tb) := PE.weak (pe_op ho ha hb) lift_bin
theorem px_cmp {op : CmpOp} (ho : OpR X (compareOp op) (rD X.K X.w g)) (ha : PX X a ta) (hb : PX X b tb) (hm : behindInMarks op b = false := by first | exact nomark _ | rfl) : PX X (.Compare a [op] [b] pos) (xBin g ta tb) := PE.weak (pe_cmpR ho ha hb hm) lift_bin
end
/-- an answer that is no object -/
theorem post_here {K : PySem.W.Frag} {w : World} {F H : Hp} {k : D → Prop} {Q : VK} (hp : Post K w F H k Q) (fh : Same F H) {x : D} {v : V} (hk : k x) (r : Rp K w F v x) : Q v H := hp x v F H hk (.refl fh) r
theorem post_tup {K : PySem.W.Frag} {w : World} {F H : Hp} {k : D → Prop} {Q : VK} (hp : Post K w F H k Q) (fh : Same F H) {xs : List D} {vs : List V} (hk : k (.tup xs)) (r : RpA K w F vs xs) {p : Addr} (h : H p = none) : Q (.ref p) (upd H p (.tup vs)) :=
  hp (.tup xs) (.ref p) _ _ hk (.new fh h) (.tup (SqT.of upd_same) (RpA.same (same_new (none_of_same fh h)) r))
theorem post_lst {K : PySem.W.Frag} {w : World} {F H : Hp} {k : D → Prop} {Q : VK} (hp : Post K w F H k Q) (fh : Same F H) {xs : List D} {vs : List V} (hk : k (.lst xs)) (r : RpA K w F vs xs) {p : Addr} (h : H p = none) : Q (.ref p) (upd H p (.lst vs)) :=
  hp (.lst xs) (.ref p) _ _ hk (.new fh h) (.lst upd_same (RpA.same (same_new (none_of_same fh h)) r))
/-- small enough for the model -/
def Sm (n : Nat) : Prop := n ≤ 100000
theorem Sm.line {n : Nat} (h : Sm n) : n ≤ sizeLine := Nat.le_trans h (by decide)
def addD : Op2
  | .int i, .int j, k => k (.int (i + j))
  | .tup a, .tup b, k => Sm (a.length + b.length) ∧ k (.tup (a ++ b))
  | .lst a, .lst b, k => Sm (a.length + b.length) ∧ k (.lst (a ++ b))
  | .str a, .str b, k => Sm (a.length + b.length) ∧ k (.str (a ++ b))
  | _, _, _ => False
def subD : Op2
  | .int i, .int j, k => k (.int (i - j))
  | _, _, _ => False
def mulD : Op2
  | .int i, .int j, k => CMul i j ∧ k (.int (i * j))
  | _, _, _ => False
def modD : Op2
  | .int i, .int j, k => j ≠ 0 ∧ k (.int (i.fmod j))
  | _, _, _ => False
def fdivD : Op2
  | .int i, .int j, k => CDivN i j ∧ k (.int (i.fdiv j))
  | _, _, _ => False
def ltD : Op2
  | .int i, .int j, k => k (.bl (decide (i < j)))
  | .str i, .str j, k => k (.bl (decide (i.cps.toList < j.cps.toList)))
  | _, _, _ => False
def leD : Op2
  | .int i, .int j, k => k (.bl (decide (i ≤ j)))
  | _, _, _ => False
def gtD : Op2
  | .int i, .int j, k => k (.bl (decide (j < i)))
  | _, _, _ => False
def geD : Op2
  | .int i, .int j, k => k (.bl (decide (j ≤ i)))
  | _, _, _ => False
def eqD : Op2 := fun x y k => x.cln = true ∧ y.cln = true ∧ k (.bl (decide (x = y)))
def neD : Op2 := fun x y k => x.cln = true ∧ y.cln = true ∧ k (.bl (!decide (x = y)))
/-- of truth values -/
def eqB : Op2
  | .bl a, .bl b, k => k (.bl (decide (a = b)))
  | _, _, _ => False
def neB : Op2
  | .bl a, .bl b, k => k (.bl (!decide (a = b)))
  | _, _, _ => False
section
variable {X : Cx}
theorem op_addD : OpR X (binaryOp .Add) (rD X.K X.w addD) := by
  intro pins s σ H v u v' u' Q I rv ru h
  obtain ⟨F, x, y, k, fh, r1, r2, hg, hp⟩ := h
  cases x <;> cases y <;> try exact hg.elim
  case int.int i j =>
    cases r1; cases r2
    exact op_add pins s σ H _ _ _ _ Q I rv ru ⟨i, j, rfl, rfl, post_here hp fh hg (.int _)⟩
  case str.str i j =>
    cases r1; cases r2
    obtain ⟨hs, hk⟩ := hg
    exact op_add_str pins s σ H _ _ _ _ Q I rv ru ⟨i, j, rfl, rfl, hs.line, post_here hp fh hk (.str _)⟩
  case tup.tup i j =>
    cases r1 with
    | tup s1 a1 =>
      cases r2 with
      | tup s2 a2 =>
        obtain ⟨hs, hk⟩ := hg
        refine op_catA pins s σ H _ _ _ _ Q I rv ru ⟨_, _, _, _, rfl, rfl, Same.sqT fh s1, Same.sqT fh s2, by rw [a1.length, a2.length]; exact hs.line, ?_⟩
        rename_i a xs b ys
        have e1 := a1.length
        have e2 := a2.length
        first
          | exact ⟨fun h0 => post_here hp fh (by
              have : i = [] := List.eq_nil_of_length_eq_zero (by rw [← e1, h0]; rfl)
              subst this
              exact hk) (.tup s2 a2), fun h0 h1 => post_here hp fh (by
              have : j = [] := List.eq_nil_of_length_eq_zero (by rw [← e2, h1]; rfl)
              subst this
              rw [List.append_nil] at hk
              exact hk) (.tup s1 a1), fun h0 h1 p hp0 => post_tup hp fh hk (a1.append a2) hp0⟩
          | skip
  case lst.lst i j =>
    cases r1 with
    | lst s1 a1 =>
      cases r2 with
      | lst s2 a2 =>
        obtain ⟨hs, hk⟩ := hg
        exact op_cat pins s σ H _ _ _ _ Q I rv ru ⟨_, _, _, _, rfl, rfl, fh _ _ s1, fh _ _ s2, by rw [a1.length, a2.length]; exact hs.line, fun p hp0 => post_lst hp fh hk (a1.append a2) hp0⟩
theorem op_subD : OpR X (binaryOp .Sub) (rD X.K X.w subD) := by
  intro pins s σ H v u v' u' Q I rv ru h
  obtain ⟨F, x, y, k, fh, r1, r2, hg, hp⟩ := h
  cases x <;> cases y <;> try exact hg.elim
  case int.int i j =>
    cases r1; cases r2
    exact op_sub pins s σ H _ _ _ _ Q I rv ru ⟨i, j, rfl, rfl, post_here hp fh hg (.int _)⟩
theorem op_mulD : OpR X (binaryOp .Mult) (rD X.K X.w mulD) := by
  intro pins s σ H v u v' u' Q I rv ru h
  obtain ⟨F, x, y, k, fh, r1, r2, hg, hp⟩ := h
  cases x <;> cases y <;> try exact hg.elim
  case int.int i j =>
    cases r1; cases r2
    exact op_mul pins s σ H _ _ _ _ Q I rv ru ⟨i, j, rfl, rfl, hg.1, post_here hp fh hg.2 (.int _)⟩
theorem op_modD : OpR X (binaryOp .Mod) (rD X.K X.w modD) := by
  intro pins s σ H v u v' u' Q I rv ru h
  obtain ⟨F, x, y, k, fh, r1, r2, hg, hp⟩ := h
  cases x <;> cases y <;> try exact hg.elim
  case int.int i j =>
    cases r1; cases r2
    exact op_modN pins s σ H _ _ _ _ Q I rv ru ⟨i, j, rfl, rfl, hg.1, post_here hp fh hg.2 (.int _)⟩
theorem op_fdivD : OpR X (binaryOp .FloorDiv) (rD X.K X.w fdivD) := by
  intro pins s σ H v u v' u' Q I rv ru h
  obtain ⟨F, x, y, k, fh, r1, r2, hg, hp⟩ := h
  cases x <;> cases y <;> try exact hg.elim
  case int.int i j =>
    cases r1; cases r2
    exact op_fdivN pins s σ H _ _ _ _ Q I rv ru ⟨i, j, rfl, rfl, hg.1, post_here hp fh hg.2 (.int _)⟩
theorem op_ltD : OpR X (compareOp .Lt) (rD X.K X.w ltD) := by
  intro pins s σ H v u v' u' Q I rv ru h
  obtain ⟨F, x, y, k, fh, r1, r2, hg, hp⟩ := h
  cases x <;> cases y <;> try exact hg.elim
  case int.int i j =>
    cases r1; cases r2
    exact op_lt pins s σ H _ _ _ _ Q I rv ru ⟨i, j, rfl, rfl, post_here hp fh hg (.bl _)⟩
  case str.str i j =>
    cases r1; cases r2
    exact op_lt_str pins s σ H _ _ _ _ Q I rv ru ⟨i, j, rfl, rfl, post_here hp fh hg (.bl _)⟩
theorem op_leD : OpR X (compareOp .LtE) (rD X.K X.w leD) := by
  intro pins s σ H v u v' u' Q I rv ru h
  obtain ⟨F, x, y, k, fh, r1, r2, hg, hp⟩ := h
  cases x <;> cases y <;> try exact hg.elim
  case int.int i j =>
    cases r1; cases r2
    exact op_le pins s σ H _ _ _ _ Q I rv ru ⟨i, j, rfl, rfl, post_here hp fh hg (.bl _)⟩
theorem op_gtD : OpR X (compareOp .Gt) (rD X.K X.w gtD) := by
  intro pins s σ H v u v' u' Q I rv ru h
  obtain ⟨F, x, y, k, fh, r1, r2, hg, hp⟩ := h
  cases x <;> cases y <;> try exact hg.elim
  case int.int i j =>
    cases r1; cases r2
    exact op_gt pins s σ H _ _ _ _ Q I rv ru ⟨i, j, rfl, rfl, post_here hp fh hg (.bl _)⟩
theorem op_geD : OpR X (compareOp .GtE) (rD X.K X.w geD) := by
  intro pins s σ H v u v' u' Q I rv ru h
  obtain ⟨F, x, y, k, fh, r1, r2, hg, hp⟩ := h
  cases x <;> cases y <;> try exact hg.elim
  case int.int i j =>
    cases r1; cases r2
    exact op_ge pins s σ H _ _ _ _ Q I rv ru ⟨i, j, rfl, rfl, post_here hp fh hg (.bl _)⟩
theorem op_eqD' (hu : X.A.units + 64 < cLine) : OpR X (compareOp .Eq) (rD X.K X.w eqD) := by
  intro pins s σ H v u v' u' Q I rv ru h
  obtain ⟨F, x, y, k, fh, r1, r2, ⟨c1, c2, hk⟩, hp⟩ := h
  refine op_eqD hu pins s σ H _ _ _ _ Q I rv ru ⟨x.py, y.py, r1.toDp fh c1, r2.toDp fh c2, D.shaped c1, D.shaped c2, ?_⟩
  rw [D.eqv_py 20 20 x y c1 c2]
  exact post_here hp fh hk (.bl _)
theorem op_neD' (hu : X.A.units + 64 < cLine) : OpR X (compareOp .NotEq) (rD X.K X.w neD) := by
  intro pins s σ H v u v' u' Q I rv ru h
  obtain ⟨F, x, y, k, fh, r1, r2, ⟨c1, c2, hk⟩, hp⟩ := h
  refine op_neD hu pins s σ H _ _ _ _ Q I rv ru ⟨x.py, y.py, r1.toDp fh c1, r2.toDp fh c2, D.shaped c1, D.shaped c2, ?_⟩
  rw [D.eqv_py 20 20 x y c1 c2]
  exact post_here hp fh hk (.bl _)
theorem dec_bl (a b : Bool) : decide (V.bl a = V.bl b) = decide (a = b) := by
  by_cases e : a = b
  · simp [e]
  · simp [e]
theorem op_eqB : OpR X (compareOp .Eq) (rD X.K X.w eqB) := by
  intro pins s σ H v u v' u' Q I rv ru h
  obtain ⟨F, x, y, k, fh, r1, r2, hg, hp⟩ := h
  cases x <;> cases y <;> try exact hg.elim
  case bl.bl i j =>
    cases r1; cases r2
    exact op_eq pins s σ H _ _ _ _ Q I rv ru ⟨rfl, by rw [dec_bl]; exact post_here hp fh hg (.bl _)⟩
theorem op_neB : OpR X (compareOp .NotEq) (rD X.K X.w neB) := by
  intro pins s σ H v u v' u' Q I rv ru h
  obtain ⟨F, x, y, k, fh, r1, r2, hg, hp⟩ := h
  cases x <;> cases y <;> try exact hg.elim
  case bl.bl i j =>
    cases r1; cases r2
    exact op_ne pins s σ H _ _ _ _ Q I rv ru ⟨rfl, by rw [dec_bl]; exact post_here hp fh hg (.bl _)⟩
/-- x is True, x is not True (truth values) -/
theorem op_isB : OpR X (compareOp .Is) (rD X.K X.w eqB) := by
  intro pins s σ H v u v' u' Q I rv ru h
  obtain ⟨F, x, y, k, fh, r1, r2, hg, hp⟩ := h
  cases x <;> cases y <;> try exact hg.elim
  case bl.bl i j =>
    cases r1; cases r2
    exact op_is_bl pins s σ H _ _ _ _ Q I rv ru ⟨i, j, rfl, rfl, post_here hp fh hg (.bl _)⟩
theorem op_isNotB : OpR X (compareOp .IsNot) (rD X.K X.w neB) := by
  intro pins s σ H v u v' u' Q I rv ru h
  obtain ⟨F, x, y, k, fh, r1, r2, hg, hp⟩ := h
  cases x <;> cases y <;> try exact hg.elim
  case bl.bl i j =>
    cases r1; cases r2
    exact op_isnot_bl pins s σ H _ _ _ _ Q I rv ru ⟨i, j, rfl, rfl, post_here hp fh hg (.bl _)⟩
/-- is None, is not None -/
def isND : Op2 := fun x y k => y = .non ∧ k (.bl (decide (x = .non)))
def notND : Op2 := fun x y k => y = .non ∧ k (.bl (!decide (x = .non)))
theorem rp_non {K : PySem.W.Frag} {w : World} {F : Hp} {v : V} {x : D} (r : Rp K w F v x) : decide (v = .non) = decide (x = .non) := by
  cases r <;> first | rfl | (rw [decide_eq_false (by intro h; cases h), decide_eq_false (by intro h; cases h)])
theorem op_isND : OpR X (compareOp .Is) (rD X.K X.w isND) := by
  intro pins s σ H v u v' u' Q I rv ru h
  obtain ⟨F, x, y, k, fh, r1, r2, ⟨rfl, hk⟩, hp⟩ := h
  cases r2
  refine op_isN pins s σ H _ _ _ _ Q I rv ru ⟨rfl, ?_⟩
  rw [rp_non r1]
  exact post_here hp fh hk (.bl _)
theorem op_notND : OpR X (compareOp .IsNot) (rD X.K X.w notND) := by
  intro pins s σ H v u v' u' Q I rv ru h
  obtain ⟨F, x, y, k, fh, r1, r2, ⟨rfl, hk⟩, hp⟩ := h
  cases r2
  refine op_notN pins s σ H _ _ _ _ Q I rv ru ⟨rfl, ?_⟩
  rw [rp_non r1]
  exact post_here hp fh hk (.bl _)
end

/-- the second operand is read just now -/
def xIn (ta : TX) (tb : TXR) (g : D → D → (D → Prop) → Prop) : TX := fun ρ k => ta ρ fun x => tb ρ fun y => g x y.dat k
def rDR (K : PySem.W.Frag) (w : World) (g : Op2) : R2 := fun v u H Q => ∃ F x y k, Same F H ∧ Rp K w F v x ∧ Rd1 K w F H u y ∧ g x y.dat k ∧ Post K w F H k Q
theorem lift_in {K : PySem.W.Frag} {w : World} {g : Op2} {ta : TX} {tb : TXR} (σ : L2.St) (H : Hp) (Q : VK) (h : liftE K w (xIn ta tb g) σ H Q) : tOp (rDR K w g) (liftE K w ta) (liftR K w tb) σ H Q := by
  obtain ⟨G, F, ρ, k, R, ht, hp⟩ := h
  exact ⟨G, F, ρ, _, R, ht, fun x v F1 H1 hx n1 r1 => ⟨G, F1, ρ, _, R.nw n1, hx, fun y u F2 H2 hy n2 r2 => ⟨F2, x, y, k, n2.fh, Rp.same n2.ff r1, r2, hy, fun z v' F3 H3 hz n3 r3 => hp z v' F3 H3 hz ((n1.trans n2).trans n3) r3⟩⟩⟩
/-- in a list, a tuple (of clean data), a dict's keys; one sign in a text -/
def inD (neg : Bool) : Op2
  | x, .tup ys, k => x.cln = true ∧ (D.tup ys).cln = true ∧ k (.bl (if neg then !decide (x ∈ ys) else decide (x ∈ ys)))
  | x, .lst ys, k => x.cln = true ∧ (D.lst ys).cln = true ∧ k (.bl (if neg then !decide (x ∈ ys) else decide (x ∈ ys)))
  | .tup x, .dic ks _, k => D.kok 8 (.tup x) = true ∧ k (.bl (if neg then !decide (D.tup x ∈ ks) else decide (D.tup x ∈ ks)))
  | .str x, .dik ks _, k => k (.bl (if neg then !decide (x ∈ ks) else decide (x ∈ ks)))
  | .str x, .str y, k => ∃ c, x = ⟨#[c]⟩ ∧ k (.bl (if neg then !decide (c ∈ y.cps.toList) else decide (c ∈ y.cps.toList)))
  | _, _, _ => False
theorem any_eqv (x : D) (hx : x.cln = true) : ∀ (n : Nat) (ys : List D), ys.all (D.cl n) = true → ((D.pys ys).any fun z => PyData.eqv z x.py) = decide (x ∈ ys)
  | _, [], _ => by simp [D.pys]
  | n, y :: ys, h => by
    rw [List.all_cons, Bool.and_eq_true] at h
    simp only [D.pys, List.any_cons]
    rw [D.eqv_py n 20 y x h.1 hx, any_eqv x hx n ys h.2]
    by_cases e1 : y = x
    · subst e1; simp
    · have e2 : ¬ x = y := fun q => e1 q.symm
      simp [e1, e2]
section
variable {X : Cx}
theorem room65 {k : Nat} (hr : Room k X.A) : X.A.units + 65 < cLine := by have := hr.un; omega
theorem in_tupD (hu : X.A.units + 65 < cLine) {neg : Bool} {pins : List (Addr × Obj)} {s : Shared} {σ : L2.St} {H : Hp} {v u : V} {v' u' : Value} {Q : VK} (I : Inv X pins σ H s) (rv : RelV v v') (ru : RelV u u')
    {d : PyData} {ds : List PyData} (hd : Dp X.K H v d) (he : Dp X.K H u (.tuple ds)) (sd : SeqAt.shaped d = true) (se : SeqAt.shaped (.tuple ds) = true) (q : Q (.bl (if neg then !(ds.any fun z => PyData.eqv z d) else ds.any fun z => PyData.eqv z d)) H) :
    wpAny (model X.prog X.w) X.A (compareOp (if neg then .NotIn else .In) v' u') (EP X pins σ Q) X.xe s := by
  obtain ⟨as, r1⟩ := Dp.reads I d v v' hd rv
  obtain ⟨bs, r2⟩ := Dp.reads I (.tuple ds) u u' he ru
  cases neg with
  | false => exact SeqAt.in_tuple_reads r2 r1 (SeqAt.canLay_of_shaped se) (SeqAt.canLay_of_shaped sd) (room_in_shaped sd hu) ⟨.bl _, H, I, rfl, q⟩
  | true => exact SeqAt.notIn_tuple_reads r2 r1 (SeqAt.canLay_of_shaped se) (SeqAt.canLay_of_shaped sd) (room_in_shaped sd hu) ⟨.bl _, H, I, rfl, q⟩
end
end PL
end

section
set_option Elab.async false
set_option linter.all false
set_option maxRecDepth 100000
set_option maxHeartbeats 2000000
set_option autoImplicit false
namespace PL
open PySem PySem.Spec PyProof.Rows L2

section
variable {X : Cx} {pins : List (Addr × Obj)} {σ : L2.St} {H F : Hp} {s : Shared} {w : World}
mutual
theorem nested_of (I : Inv X pins σ H s) (fh : Same F H) : ∀ (d : D) (n : Nat) (v : V) (u : Value), Rp X.K w F v d → D.kok n d = true → RelV v u → NestedIs s.heap d.key u
  | .non, _, _, _, r, _, ru => by cases r; cases ru; exact .none
  | .int i, _, _, _, r, _, ru => by cases r; obtain ⟨t, rfl⟩ := ru; exact .int i t
  | .str x, _, _, _, r, _, ru => by cases r; obtain ⟨t, rfl⟩ := ru; exact .text x t
  | .tup ds, n, _, _, r, hk, ru => by
    cases r with
    | tup h1 h2 =>
      cases ru
      obtain ⟨its, rv, ⟨o, ho, hc, m, hd⟩, _⟩ := I.tuple (Same.sqT fh h1)
      cases n with
      | zero => simp [D.kok] at hk
      | succ n =>
        exact .tup ho hc hd (by
          have := nestedAll_of I fh ds n _ its h2 (by simpa [D.kok] using hk) rv
          simpa using this)
  | .bl _, n, _, _, _, hk, _ => by cases n <;> simp [D.kok] at hk
  | .lst _, n, _, _, _, hk, _ => by cases n <;> simp [D.kok] at hk
  | .dic _ _, n, _, _, _, hk, _ => by cases n <;> simp [D.kok] at hk
  | .dik _ _, n, _, _, _, hk, _ => by cases n <;> simp [D.kok] at hk
  | .pot, n, _, _, _, hk, _ => by cases n <;> simp [D.kok] at hk
theorem nestedAll_of (I : Inv X pins σ H s) (fh : Same F H) : ∀ (ds : List D) (n : Nat) (vs : List V) (us : List Value), RpA X.K w F vs ds → (∀ d ∈ ds, D.kok n d = true) → Vals vs us → NestedAll s.heap (D.keys ds) us
  | [], _, _, _, r, _, ru => by cases r; cases ru; exact .nil
  | d :: ds, n, _, _, r, hk, ru => by
    cases r with
    | cons a b =>
      cases ru with
      | cons c e => exact .cons (nested_of I fh d n _ _ a (hk d (List.mem_cons_self ..)) c) (nestedAll_of I fh ds n _ _ b (fun x hx => hk x (List.mem_cons_of_mem _ hx)) e)
end
/-- an entry as the library says it -/
def EntS (x : NestedKey × Addr × V) (y : NestedKey × Addr × Value) : Prop := x.1 = y.1 ∧ x.2.1 = y.2.1 ∧ RelV x.2.2 y.2.2
theorem ents_of (P : Program) (w : World) : ∀ {xs : List (NestedKey × Addr × V)} {es : List DictEntry}, Paired (entV w) xs es → ∃ ys : List (NestedKey × Addr × Value), es = ys.map (entryOfKey (nestedKind P w)) ∧ Paired EntS xs ys
  | _, _, .nil => ⟨[], rfl, .nil⟩
  | _, _, .cons (a := x) (b := e) h t => by
    obtain ⟨ys, e1, e2⟩ := ents_of P w t
    obtain ⟨h1, h2, h3⟩ := h
    refine ⟨(x.1, x.2.1, e.val) :: ys, ?_, .cons ⟨rfl, rfl, h3⟩ e2⟩
    rw [List.map_cons, ← e1]
    congr 1
    obtain ⟨a, b, c⟩ := e
    cases h1
    cases h2
    rfl
theorem ents_back (P : Program) (w : World) : ∀ {xs : List (NestedKey × Addr × V)} {ys : List (NestedKey × Addr × Value)}, Paired EntS xs ys → Paired (entV w) xs (ys.map (entryOfKey (nestedKind P w)))
  | _, _, .nil => .nil
  | _, _, .cons (a := x) (b := y) h t => by
    obtain ⟨h1, h2, h3⟩ := h
    refine .cons ⟨?_, ?_, h3⟩ (ents_back P w t)
    · show (nestedKind P w).hash y.1 = _
      rw [← h1]
      rfl
    · show Value.ref y.2.1 = _
      rw [h2]
theorem ents_keys : ∀ {xs : List (NestedKey × Addr × V)} {ys : List (NestedKey × Addr × Value)}, Paired EntS xs ys → xs.map (·.1) = ys.map (·.1)
  | _, _, .nil => rfl
  | _, _, .cons h t => by rw [List.map_cons, List.map_cons, h.1, ents_keys t]
/-- the tracked dict in the library's words -/
theorem dict_of {p : Addr} {xs : List (NestedKey × Addr × V)} {ks : List D} (I : Inv X pins σ H s) (fh : Same F H) (hp : H p = some (DicO X.w p xs)) (hk : RpA X.K w F (xs.map fun q => V.ref q.2.1) ks) (ko : KeysOk xs ks) :
    (p == sysModules) = false ∧ ∃ ys : List (NestedKey × Addr × Value), s.heap.DictOfH (nestedKind X.prog X.w) p ys ∧ Paired EntS xs ys := by
  obtain ⟨⟨o, es, ep, h1, h2, h3, h4, h5, h6⟩, _⟩ := (show ObjOk X.prog X.w H s.heap p (DicO X.w p xs) from I.hok p _ hp)
  obtain ⟨ys, e1, e2⟩ := ents_of X.prog X.w h4
  refine ⟨h6, ys, ⟨o, es, ep, h1, h2, h3, e1, ?_, by rw [← ents_keys e2]; exact h5⟩, e2⟩
  obtain ⟨ko1, ko2⟩ := ko
  have all : ∀ {xs : List (NestedKey × Addr × V)} {ys : List (NestedKey × Addr × Value)} {ks : List D}, Paired EntS xs ys → RpA X.K w F (xs.map fun q => V.ref q.2.1) ks → xs.map (·.1) = ks.map D.key → (∀ k ∈ ks, D.kok 8 k = true) →
      ∀ y ∈ ys, (nestedKind X.prog X.w).is s.heap y.1 y.2.1 := by
    intro xs ys ks hp
    induction hp generalizing ks with
    | nil => intro _ _ _ y hy; cases hy
    | @cons x y xs ys h t ih =>
      intro hr he hc z hz
      cases ks with
      | nil => cases hr
      | cons k ks =>
        rw [List.map_cons, List.map_cons] at he
        injection he with he1 he2
        cases hr with
        | cons r1 r2 =>
          rcases List.mem_cons.mp hz with e | hz
          · subst e
            obtain ⟨q1, q2, q3⟩ := h
            have kk := hc k (List.mem_cons_self ..)
            refine ⟨?_, ?_⟩
            · rw [← q1, ← q2, he1]
              exact nested_of I fh k 8 _ _ r1 kk rfl
            · rw [← q1, he1]
              exact D.key_depth 8 k kk
          · exact ih r2 he2 (fun x hx => hc x (List.mem_cons_of_mem _ hx)) z hz
  exact all e2 hk ko1 ko2
/-- looked up -/
def dLook : List D → List D → D → Option D
  | k :: ks, v :: vs, y => if k = y then some v else dLook ks vs y
  | _, _, _ => none
def sLook : List Str → List D → Str → Option D
  | k :: ks, v :: vs, y => if k = y then some v else sLook ks vs y
  | _, _, _ => none
theorem atKey_cons {K : Type} [DecidableEq K] (x : K × Addr × Value) (xs : List (K × Addr × Value)) (k : K) : atKey (x :: xs) k = if x.1 = k then some x.2 else atKey xs k := by
  by_cases h : x.1 = k <;> simp [atKey, h]
theorem look_at : ∀ {xs : List (NestedKey × Addr × V)} {ys : List (NestedKey × Addr × Value)} {ks vs : List D} {y : D}, Paired EntS xs ys → RpA X.K w F (xs.map fun q => V.ref q.2.1) ks → RpA X.K w F (xs.map fun q => q.2.2) vs →
    KeysOk xs ks → D.kok 8 y = true → match dLook ks vs y with
      | none => atKey ys y.key = none
      | some d => ∃ a u v, atKey ys y.key = some (a, v) ∧ RelV u v ∧ Rp X.K w F u d := by
  intro xs ys ks vs y hp
  induction hp generalizing ks vs with
  | nil =>
    intro h1 h2 _ _
    cases h1
    cases h2
    rfl
  | @cons x z xs ys h t ih =>
    intro h1 h2 ko hy
    obtain ⟨k1, k2⟩ := ko
    cases ks with
    | nil => cases h1
    | cons k ks =>
      cases vs with
      | nil => cases h2
      | cons v vs =>
        rw [List.map_cons, List.map_cons] at k1
        injection k1 with k1 k3
        cases h1 with
        | cons r1 r2 =>
          cases h2 with
          | cons q1 q2 =>
            obtain ⟨e1, e2, e3⟩ := h
            rw [atKey_cons]
            by_cases e : k = y
            · subst e
              rw [if_pos (by rw [← e1, k1])]
              show match (if k = k then some v else _) with | none => _ | some d => _
              rw [if_pos rfl]
              exact ⟨z.2.1, _, z.2.2, rfl, e3, q1⟩
            · have ne : ¬ z.1 = y.key := fun q => e (D.key_inj 8 8 k y (k2 k (List.mem_cons_self ..)) hy (by rw [← k1, e1, q]))
              rw [if_neg ne]
              show match (if k = y then some v else dLook ks vs y) with | none => _ | some d => _
              rw [if_neg e]
              exact ih r2 q2 ⟨k3, fun x hx => k2 x (List.mem_cons_of_mem _ hx)⟩ hy
theorem dLook_none : ∀ {ks vs : List D} {y : D}, ks.length = vs.length → (dLook ks vs y).isSome = decide (y ∈ ks)
  | [], [], y, _ => by simp [dLook]
  | [], _ :: _, _, h => by simp at h
  | _ :: _, [], _, h => by simp at h
  | k :: ks, v :: vs, y, h => by
    have ih := dLook_none (ks := ks) (vs := vs) (y := y) (by simpa using h)
    by_cases e : k = y
    · simp [dLook, e]
    · have e2 : ¬ y = k := fun q => e q.symm
      simp [dLook, e, e2, ih]
theorem sLook_none : ∀ {ks : List Str} {vs : List D} {y : Str}, ks.length = vs.length → (sLook ks vs y).isSome = decide (y ∈ ks)
  | [], [], y, _ => by simp [sLook]
  | [], _ :: _, _, h => by simp at h
  | _ :: _, [], _, h => by simp at h
  | k :: ks, v :: vs, y, h => by
    have ih := sLook_none (ks := ks) (vs := vs) (y := y) (by simpa using h)
    by_cases e : k = y
    · simp [sLook, e]
    · have e2 : ¬ y = k := fun q => e q.symm
      simp [sLook, e, e2, ih]
theorem valV_cons {κ : Type} [DecidableEq κ] (p : κ × V) (r : List (κ × V)) (k : κ) : valV (p :: r) k = if p.1 = k then some p.2 else valV r k := by
  by_cases h : p.1 = k
  · rw [valV_pos h, if_pos h]
  · rw [valV_neg h, if_neg h]
theorem look_k : ∀ {kvs : List (Key × V)} {ks : List Str} {vs : List D} {y : Str}, kvs.map (·.1) = ks.map Sum.inr → RpA X.K w F (kvs.map fun q => q.2) vs → match sLook ks vs y with
      | none => valV kvs (Sum.inr y) = none
      | some d => ∃ u, valV kvs (Sum.inr y) = some u ∧ Rp X.K w F u d := by
  intro kvs
  induction kvs with
  | nil =>
    intro ks vs y h1 h2
    cases ks with
    | nil => cases h2; rfl
    | cons k ks => simp at h1
  | cons q kvs ih =>
    intro ks vs y h1 h2
    cases ks with
    | nil => simp at h1
    | cons k ks =>
      cases vs with
      | nil => cases h2
      | cons v vs =>
        rw [List.map_cons, List.map_cons] at h1
        injection h1 with h1 h3
        cases h2 with
        | cons q1 q2 =>
          rw [valV_cons]
          by_cases e : k = y
          · subst e
            rw [if_pos h1]
            show match (if k = k then some v else _) with | none => _ | some d => _
            rw [if_pos rfl]
            exact ⟨_, rfl, q1⟩
          · rw [if_neg (fun z => e (by rw [h1] at z; exact Sum.inr.inj z))]
            show match (if k = y then some v else sLook ks vs y) with | none => _ | some d => _
            rw [if_neg e]
            exact ih h3 q2
end

section
variable {X : Cx}
theorem op_inP (neg : Bool) (hu : X.A.units + 65 < cLine) : OpR X (compareOp (if neg then .NotIn else .In)) (rDR X.K X.w (inD neg)) := by
  intro pins s σ H v u v' u' Q I rv ru h
  obtain ⟨F, x, y, k, fh, r1, r2, hg, hp⟩ := h
  have full := r2.full fh
  generalize hy : y.dat = yd at hg full
  cases yd with
  | tup ys =>
    have hg' : x.cln = true ∧ (D.tup ys).cln = true ∧ k (.bl (if neg then !decide (x ∈ ys) else decide (x ∈ ys))) := by cases x <;> exact hg
    obtain ⟨c1, c2, hk⟩ := hg'
    have d2 : Dp X.K H u (.tuple (D.pys ys)) := by simpa [D.py] using full.toDp (Same.refl H) c2
    have s2 : SeqAt.shaped (.tuple (D.pys ys)) = true := by simpa [D.py] using D.shaped (d := .tup ys) c2
    refine in_tupD hu I rv ru (r1.toDp fh c1) d2 (D.shaped c1) s2 ?_
    rw [any_eqv x c1 19 ys (by simpa [D.cl] using c2)]
    exact post_here hp fh hk (.bl _)
  | lst ys =>
    have hg' : x.cln = true ∧ (D.lst ys).cln = true ∧ k (.bl (if neg then !decide (x ∈ ys) else decide (x ∈ ys))) := by cases x <;> exact hg
    obtain ⟨c1, c2, hk⟩ := hg'
    have d2 : Dp X.K H u (.list (D.pys ys)) := by simpa [D.py] using full.toDp (Same.refl H) c2
    have s2 : SeqAt.shaped (.list (D.pys ys)) = true := by simpa [D.py] using D.shaped (d := .lst ys) c2
    have a := any_eqv x c1 19 ys (by simpa [D.cl] using c2)
    cases neg with
    | false => exact op_inD hu pins s σ H _ _ _ _ Q I rv ru ⟨x.py, D.pys ys, r1.toDp fh c1, d2, D.shaped c1, s2, by rw [a]; exact post_here hp fh hk (.bl _)⟩
    | true => exact op_notInD hu pins s σ H _ _ _ _ Q I rv ru ⟨x.py, D.pys ys, r1.toDp fh c1, d2, D.shaped c1, s2, by rw [a]; exact post_here hp fh hk (.bl _)⟩
  | str z =>
    cases x <;> try exact hg.elim
    case str z0 =>
      obtain ⟨c, rfl, hk⟩ := hg
      cases r1
      cases full
      cases neg with
      | false => exact op_in_sign pins s σ H _ _ _ _ Q I rv ru ⟨c, z, rfl, rfl, post_here hp fh hk (.bl _)⟩
      | true => exact op_notIn_sign pins s σ H _ _ _ _ Q I rv ru ⟨c, z, rfl, rfl, post_here hp fh hk (.bl _)⟩
  | dic ks vs =>
    cases x <;> try exact hg.elim
    case tup xs =>
      obtain ⟨ko, hk⟩ := hg
      cases full with
      | dicN h1 h2 h3 h4 =>
        rename_i a es
        cases r1 with
        | tup t1 t2 =>
          cases rv
          cases ru
          obtain ⟨nm, ys, hd, hE⟩ := dict_of I (Same.refl H) h1 h2 h4
          have hkey := nested_of I fh (.tup xs) 8 _ _ (.tup t1 t2) ko rfl
          have lk := look_at (y := .tup xs) hE h2 h3 h4 ko
          have len : ks.length = vs.length := by rw [← h2.length, ← h3.length, List.length_map, List.length_map]
          have e : (atKey ys (D.tup xs).key).isSome = decide (D.tup xs ∈ ks) := by
            rw [← dLook_none len]
            cases q : dLook ks vs (.tup xs) with
            | none => rw [q] at lk; rw [show atKey ys (D.tup xs).key = none from lk]; rfl
            | some d => rw [q] at lk; obtain ⟨a, u, v, e1, _⟩ := lk; rw [e1]; rfl
          have hu8 : (nestedKind X.prog X.w).room X.A.in1 := by
            show X.A.units + 1 + 8 < cLine
            omega
          cases neg with
          | false =>
            refine wpAny_in_heap hu8 ⟨hkey, D.key_depth 8 _ ko⟩ nm hd ?_
            rw [e]
            exact ⟨.bl _, H, I.tok _, rfl, post_here hp fh hk (.bl _)⟩
          | true =>
            refine wpAny_notIn_heap hu8 ⟨hkey, D.key_depth 8 _ ko⟩ nm hd ?_
            rw [e]
            exact ⟨.bl _, H, I.tok _, rfl, post_here hp fh hk (.bl _)⟩
  | dik ks vs =>
    cases x <;> try exact hg.elim
    case str z =>
      cases full with
      | dicK h1 h2 h3 =>
        rename_i a kvs
        cases r1
        cases ru
        have lk := look_k (y := z) h2 h3
        have len : ks.length = vs.length := by
          rw [← h3.length, List.length_map]
          have := congrArg List.length h2
          simpa using this.symm
        have e : (valV kvs (Sum.inr z)).isSome = decide (z ∈ ks) := by
          rw [← sLook_none len]
          cases q : sLook ks vs z with
          | none => rw [q] at lk; rw [show valV kvs (Sum.inr z) = none from lk]; rfl
          | some d => rw [q] at lk; obtain ⟨u, e1, _⟩ := lk; rw [e1]; rfl
        cases neg with
        | false =>
          refine d_in (by omega) I (DGet.k (k := Sum.inr z) h1) rv fun s3 I3 => ⟨.bl _, H, I3, rfl, ?_⟩
          rw [e]
          exact post_here hp fh hg (.bl _)
        | true =>
          refine d_notIn (by omega) I (DGet.k (k := Sum.inr z) h1) rv fun s3 I3 => ⟨.bl _, H, I3, rfl, ?_⟩
          rw [e]
          exact post_here hp fh hg (.bl _)
  | non => cases x <;> exact hg.elim
  | pot => cases x <;> exact hg.elim
  | bl _ => cases x <;> exact hg.elim
  | int _ => cases x <;> exact hg.elim
theorem px_in {a b : Expr} {ta : TX} {tb : TXR} {pos : Pos} (hu : X.A.units + 65 < cLine) (ha : PX X a ta) (hb : PR X b tb) (hm : behindInMarks .In b = false := by rfl) : PX X (.Compare a [.In] [b] pos) (xIn ta tb (inD false)) :=
  PE.weak (pe_cmpR (op_inP false hu) ha hb hm) lift_in
theorem px_notIn {a b : Expr} {ta : TX} {tb : TXR} {pos : Pos} (hu : X.A.units + 65 < cLine) (ha : PX X a ta) (hb : PR X b tb) (hm : behindInMarks .NotIn b = false := by rfl) : PX X (.Compare a [.NotIn] [b] pos) (xIn ta tb (inD true)) :=
  PE.weak (pe_cmpR (op_inP true hu) ha hb hm) lift_in

def ixD : Op2
  | .tup xs, .int i, k => match atI xs i with | some v => k v | none => False
  | .lst xs, .int i, k => match atI xs i with | some v => k v | none => False
  | .str z, .int i, k => Sm z.length ∧ match atI z.cps.toList i with | some c => k (.str ⟨#[c]⟩) | none => False
  | .dic ks vs, .tup y, k => D.kok 8 (.tup y) = true ∧ match dLook ks vs (.tup y) with | some v => k v | none => False
  | .dik ks vs, .str y, k => match sLook ks vs y with | some v => k v | none => False
  | _, _, _ => False
end
end PL
end

section
set_option Elab.async false
set_option linter.all false
set_option maxRecDepth 100000
set_option maxHeartbeats 2000000
set_option autoImplicit false
namespace PL
open PySem PySem.Spec PyProof.Rows L2

section
variable {K : PySem.W.Frag} {w : World} {F H : Hp} {v : V} {pv : PV}
theorem Rd1.lst {xs : List D} (h : Rd1 K w F H v pv) (e : pv.dat = .lst xs) (fh : Same F H) : ∃ p vs, v = .ref p ∧ H p = some (.lst vs) ∧ RpA K w F vs xs := by
  cases pv with
  | d x =>
    rw [PV.dat_d] at e
    subst e
    cases h with
    | lst h1 h2 => exact ⟨_, _, rfl, fh _ _ h1, h2⟩
  | own ys =>
    rw [PV.dat_own] at e
    cases e
    obtain ⟨p, vs, e, h1, _, h3⟩ := h
    exact ⟨p, vs, e, h1, h3⟩
  | odic _ _ => cases e
theorem Rd1.tup {xs : List D} (h : Rd1 K w F H v pv) (e : pv.dat = .tup xs) (fh : Same F H) : ∃ p vs, v = .ref p ∧ SqT K F p vs ∧ SqT K H p vs ∧ RpA K w F vs xs := by
  cases pv with
  | d x =>
    rw [PV.dat_d] at e
    subst e
    cases h with
    | tup h1 h2 => exact ⟨_, _, rfl, h1, Same.sqT fh h1, h2⟩
  | own ys => cases e
  | odic _ _ => cases e
theorem Rd1.dic {ks vs : List D} (h : Rd1 K w F H v pv) (e : pv.dat = .dic ks vs) (fh : Same F H) : ∃ p xs, v = .ref p ∧ H p = some (DicO w p xs) ∧ RpA K w F (xs.map fun q => .ref q.2.1) ks ∧ RpA K w F (xs.map fun q => q.2.2) vs ∧ KeysOk xs ks := by
  cases pv with
  | d x =>
    rw [PV.dat_d] at e
    subst e
    cases h with
    | dicN h1 h2 h3 h4 => exact ⟨_, _, rfl, fh _ _ h1, h2, h3, h4⟩
  | own ys => cases e
  | odic _ _ =>
    rw [PV.dat_odic] at e
    cases e
    obtain ⟨p, xs, e, h1, _, h3⟩ := h
    exact ⟨p, xs, e, h1, h3⟩
theorem Rd1.dik {ks : List Str} {vs : List D} (h : Rd1 K w F H v pv) (e : pv.dat = .dik ks vs) (fh : Same F H) : ∃ p kvs, v = .ref p ∧ H p = some (.dK kvs) ∧ kvs.map (·.1) = ks.map Sum.inr ∧ RpA K w F (kvs.map fun q => q.2) vs := by
  cases pv with
  | d x =>
    rw [PV.dat_d] at e
    subst e
    cases h with
    | dicK h1 h2 h3 => exact ⟨_, _, rfl, fh _ _ h1, h2, h3⟩
  | own ys => cases e
  | odic _ _ => cases e
theorem Rd1.flat {d : D} (h : Rd1 K w F H v pv) (e : pv.dat = d) (hd : (∀ xs, d ≠ .lst xs) ∧ ∀ ks vs, d ≠ .dic ks vs) : Rp K w F v d := by
  cases pv with
  | d x => rw [PV.dat_d] at e; subst e; exact h
  | own ys => exact absurd e.symm (hd.1 _)
  | odic _ _ => exact absurd e.symm (hd.2 _ _)
/-- the i-th, as the values and the data stand -/
theorem RpA.atI {vs : List V} {ds : List D} {i : Int} {d : D} (r : RpA K w F vs ds) (h : L2.atI ds i = some d) : ∃ v, L2.atI vs i = some v ∧ Rp K w F v d := by
  unfold L2.atI at h ⊢
  rw [r.length]
  cases e : ixN ds.length i with
  | none => rw [e] at h; cases h
  | some j => rw [e] at h; exact r.get h
end
/-- o[i]: the first operand is read just now -/
def xIx (ta : TXR) (tb : TX) : TX := fun ρ k => ta ρ fun x => tb ρ fun y => ixD x.dat y k
def rIxD (K : PySem.W.Frag) (w : World) : R2 := fun v u H Q => ∃ F x y k, Same F H ∧ Rd1 K w F H v x ∧ Rp K w F u y ∧ ixD x.dat y k ∧ Post K w F H k Q
theorem lift_ix {K : PySem.W.Frag} {w : World} {ta : TXR} {tb : TX} (σ : L2.St) (H : Hp) (Q : VK) (h : liftE K w (xIx ta tb) σ H Q) : tOp (rIxD K w) (liftR K w ta) (liftE K w tb) σ H Q := by
  obtain ⟨G, F, ρ, k, R, ht, hp⟩ := h
  exact ⟨G, F, ρ, _, R, ht, fun x v F1 H1 hx n1 r1 => ⟨G, F1, ρ, _, R.nw n1, hx, fun y u F2 H2 hy n2 r2 => ⟨F2, x, y, k, n2.fh, r1.nw n2, r2, hy, fun z v' F3 H3 hz n3 r3 => hp z v' F3 H3 hz ((n1.trans n2).trans n3) r3⟩⟩⟩
section
variable {X : Cx}
theorem ix_D (hu : X.A.units + 65 < cLine) : IxR X (rIxD X.K X.w) := by
  intro value slice pins s σ H v u v' u' Q I rv ru h hs
  obtain ⟨F, x, y, k, fh, r1, r2, hg, hp⟩ := h
  generalize hy : x.dat = xd at hg
  cases xd <;> cases y <;> try exact hg.elim
  case tup.int xs i =>
    obtain ⟨p, vs, rfl, _, h2, h3⟩ := r1.tup hy fh
    cases r2
    have hg' : match L2.atI xs i with | some v => k v | none => False := hg
    cases e : L2.atI xs i with
    | none => rw [e] at hg'; exact hg'.elim
    | some d =>
      rw [e] at hg'
      obtain ⟨z, e2, r⟩ := h3.atI e
      exact ix_tup value slice pins s σ H _ _ _ _ Q I rv ru ⟨p, vs, i, z, rfl, rfl, h2, e2, post_here hp fh hg' r⟩ hs
  case lst.int xs i =>
    obtain ⟨p, vs, rfl, h2, h3⟩ := r1.lst hy fh
    cases r2
    have hg' : match L2.atI xs i with | some v => k v | none => False := hg
    cases e : L2.atI xs i with
    | none => rw [e] at hg'; exact hg'.elim
    | some d =>
      rw [e] at hg'
      obtain ⟨z, e2, r⟩ := h3.atI e
      exact ix_list value slice pins s σ H _ _ _ _ Q I rv ru ⟨p, vs, i, z, rfl, rfl, SqL.of h2, e2, post_here hp fh hg' r⟩ hs
  case str.int z i =>
    have r := r1.flat hy ⟨fun _ q => (by cases q), fun _ _ q => (by cases q)⟩
    cases r
    cases r2
    obtain ⟨sm, hg'⟩ := hg
    cases e : L2.atI z.cps.toList i with
    | none => rw [e] at hg'; exact hg'.elim
    | some c =>
      rw [e] at hg'
      exact ix_str value slice pins s σ H _ _ _ _ Q I rv ru ⟨z, i, c, rfl, rfl, sm.line, e, post_here hp fh hg' (.str _)⟩ hs
  case dic.tup ks vs y =>
    obtain ⟨p, xs, rfl, h1, h2, h3, h4⟩ := r1.dic hy fh
    obtain ⟨ko, hg'⟩ := hg
    cases e : dLook ks vs (.tup y) with
    | none => rw [e] at hg'; exact hg'.elim
    | some d =>
      rw [e] at hg'
      cases r2 with
      | tup t1 t2 =>
        cases rv
        cases ru
        obtain ⟨nm, ys, hd, hE⟩ := dict_of I fh h1 h2 h4
        have hkey := nested_of I fh (.tup y) 8 _ _ (.tup t1 t2) ko rfl
        have lk := look_at (y := .tup y) hE h2 h3 h4 ko
        rw [e] at lk
        obtain ⟨a, u, val, e1, ru, rp⟩ := lk
        have hu8 : (nestedKind X.prog X.w).room X.A.in1 := by
          show X.A.units + 1 + 8 < cLine
          omega
        refine tail_any hd.typeIs PySem.F.slot_dict_getitem.lookup (wpAny_getItem_heap hu8 ⟨hkey, D.key_depth 8 _ ko⟩ hd e1 ?_) hs
        exact ⟨u, H, I.tok _, ru, post_here hp fh hg' rp⟩
  case dik.str ks vs y =>
    obtain ⟨p, kvs, rfl, h1, h2, h3⟩ := r1.dik hy fh
    have hg' : match sLook ks vs y with | some v => k v | none => False := hg
    cases e : sLook ks vs y with
    | none => rw [e] at hg'; exact hg'.elim
    | some d =>
      rw [e] at hg'
      cases r2
      cases rv
      have lk := look_k (y := y) h2 h3
      rw [e] at lk
      obtain ⟨u, e1, rp⟩ := lk
      have g : DGet H p (.str y) (some u) := by
        have := DGet.k (k := Sum.inr y) h1
        rw [e1] at this
        exact this
      refine tail_any (dict_typeIs I g) PySem.F.slot_dict_getitem.lookup (d_getItem (by omega) I g ru fun w' s3 I3 rw' => ?_) hs
      exact ⟨u, H, I3, rw', post_here hp fh hg' rp⟩
theorem px_ix {a b : Expr} {ta : TXR} {tb : TX} {pos : Pos} (hu : X.A.units + 65 < cLine) (ha : PR X a ta) (hb : PX X b tb) (hs : PlainIx b := by intro _ _; rfl) : PX X (.Subscript a b pos) (xIx ta tb) :=
  PE.weak (pe_ix (ix_D hu) ha hb hs) lift_ix
end
end PL
end

section
set_option Elab.async false
set_option linter.all false
set_option maxRecDepth 100000
set_option maxHeartbeats 2000000
set_option autoImplicit false
namespace PL
open PySem PySem.Spec PyProof.Rows L2

def isB (x : D) (k : Bool → Prop) : Prop := match x with
  | .bl b => k b
  | _ => False
theorem isB_some {x : D} {k : Bool → Prop} (h : isB x k) : ∃ b, x = .bl b ∧ k b := by
  unfold isB at h
  split at h
  · exact ⟨_, rfl, h⟩
  · exact h.elim
/-- a datum's truth -/
def truD (x : D) (k : Bool → Prop) : Prop := match x with
  | .non => k false
  | .bl b => k b
  | .int i => k (i != 0)
  | .str y => Sm y.length ∧ k ((y.length : Int) != 0)
  | .tup xs => k (!xs.isEmpty)
  | .lst xs => k (!xs.isEmpty)
  | _ => False
def tB1 (t : TX) : TXT := fun ρ k => t ρ fun x => isB x k
def tTr (t : TXR) : TXT := fun ρ k => t ρ fun x => truD x.dat k
def tAnd1 (t u : TXT) : TXT := fun ρ k => t ρ fun b => if b = true then u ρ k else k false
def tOr1 (t u : TXT) : TXT := fun ρ k => t ρ fun b => if b = true then k true else u ρ k
def tNot1 (t : TXT) : TXT := fun ρ k => t ρ fun b => k (!b)
def xAnd (ta tb : TX) : TX := fun ρ k => ta ρ fun x => isB x fun b => if b = true then tb ρ k else k (.bl false)
def xOr (ta tb : TX) : TX := fun ρ k => ta ρ fun x => isB x fun b => if b = true then k (.bl true) else tb ρ k
def xNot (ta : TXR) : TX := fun ρ k => ta ρ fun x => truD x.dat fun b => k (.bl (!b))
def xIfE (t : TXT) (ta tb : TX) : TX := fun ρ k => t ρ fun b => if b = true then ta ρ k else tb ρ k
section
variable {K : PySem.W.Frag} {w : World}
theorem isEmpty_rp {F : Hp} {vs : List V} {ds : List D} (h : RpA K w F vs ds) : vs.isEmpty = ds.isEmpty := by
  cases h <;> rfl
theorem rd1_tru {F H : Hp} {v : V} {pv : PV} {k : Bool → Prop} (fh : Same F H) (r : Rd1 K w F H v pv) (h : truD pv.dat k) : ∃ b, TruV K v H b ∧ k b := by
  generalize e : pv.dat = d at h
  cases d with
  | non => have := r.flat e ⟨fun _ q => (by cases q), fun _ _ q => (by cases q)⟩; cases this; exact ⟨_, rfl, h⟩
  | bl b => have := r.flat e ⟨fun _ q => (by cases q), fun _ _ q => (by cases q)⟩; cases this; exact ⟨_, rfl, h⟩
  | int i => have := r.flat e ⟨fun _ q => (by cases q), fun _ _ q => (by cases q)⟩; cases this; exact ⟨_, rfl, h⟩
  | str y => have := r.flat e ⟨fun _ q => (by cases q), fun _ _ q => (by cases q)⟩; cases this; exact ⟨_, ⟨h.1.line, rfl⟩, h.2⟩
  | tup xs =>
    obtain ⟨p, vs, rfl, _, h2, h3⟩ := r.tup e fh
    exact ⟨_, .inr (.inl ⟨vs, h2, rfl⟩), by rw [isEmpty_rp h3]; exact h⟩
  | lst xs =>
    obtain ⟨p, vs, rfl, h2, h3⟩ := r.lst e fh
    exact ⟨_, .inl ⟨vs, SqL.of h2, rfl⟩, by rw [isEmpty_rp h3]; exact h⟩
  | dic _ _ => exact h.elim
  | dik _ _ => exact h.elim
  | pot => exact h.elim
theorem lift_B {t : TX} (σ : L2.St) (H : Hp) (Q : Bool → Hp → Prop) (h : liftT K w (tB1 t) σ H Q) : tB (liftE K w t) σ H Q := by
  obtain ⟨G, F, ρ, k, R, ht, hp⟩ := h
  refine ⟨G, F, ρ, _, R, ht, fun x v F' H' hx n r => ?_⟩
  obtain ⟨b, rfl, hb⟩ := isB_some hx
  cases r
  exact ⟨b, rfl, hp b F' H' hb n⟩
theorem lift_Tr {t : TXR} (σ : L2.St) (H : Hp) (Q : Bool → Hp → Prop) (h : liftT K w (tTr t) σ H Q) : (fun (σ : L2.St) H Q => liftR K w t σ H fun x H' => ∃ k, TruV K x H' k ∧ Q k H') σ H Q := by
  obtain ⟨G, F, ρ, k, R, ht, hp⟩ := h
  refine ⟨G, F, ρ, _, R, ht, fun x v F' H' hx n r => ?_⟩
  obtain ⟨b, h1, h2⟩ := rd1_tru n.fh r hx
  exact ⟨b, h1, hp b F' H' h2 n⟩
theorem lift_Not {t : TXR} (σ : L2.St) (H : Hp) (Q : VK) (h : liftE K w (xNot t) σ H Q) : tNotT K (liftR K w t) σ H Q := by
  obtain ⟨G, F, ρ, k, R, ht, hp⟩ := h
  refine ⟨G, F, ρ, _, R, ht, fun x v F' H' hx n r => ?_⟩
  obtain ⟨b, h1, h2⟩ := rd1_tru n.fh r hx
  exact ⟨b, h1, hp _ _ F' H' h2 n (.bl _)⟩
theorem lift_And1 {t u : TXT} (σ : L2.St) (H : Hp) (Q : Bool → Hp → Prop) (h : liftT K w (tAnd1 t u) σ H Q) : tAnd (liftT K w t) (liftT K w u) σ H Q := by
  obtain ⟨G, F, ρ, k, R, ht, hp⟩ := h
  refine ⟨G, F, ρ, _, R, ht, fun b F' H' hb n => ?_⟩
  cases b with
  | true => exact ⟨G, F', ρ, _, R.nw n, hb, fun c F2 H2 hc n2 => hp c F2 H2 hc (n.trans n2)⟩
  | false => exact hp false F' H' hb n
theorem lift_Or1 {t u : TXT} (σ : L2.St) (H : Hp) (Q : Bool → Hp → Prop) (h : liftT K w (tOr1 t u) σ H Q) : tOr (liftT K w t) (liftT K w u) σ H Q := by
  obtain ⟨G, F, ρ, k, R, ht, hp⟩ := h
  refine ⟨G, F, ρ, _, R, ht, fun b F' H' hb n => ?_⟩
  cases b with
  | true => exact hp true F' H' hb n
  | false => exact ⟨G, F', ρ, _, R.nw n, hb, fun c F2 H2 hc n2 => hp c F2 H2 hc (n.trans n2)⟩
theorem lift_Not1 {t : TXT} (σ : L2.St) (H : Hp) (Q : Bool → Hp → Prop) (h : liftT K w (tNot1 t) σ H Q) : tNot (liftT K w t) σ H Q := by
  obtain ⟨G, F, ρ, k, R, ht, hp⟩ := h
  exact ⟨G, F, ρ, _, R, ht, fun b F' H' hb n => hp _ F' H' hb n⟩
theorem lift_AndV {ta tb : TX} (σ : L2.St) (H : Hp) (Q : VK) (h : liftE K w (xAnd ta tb) σ H Q) : tAndV (liftE K w ta) (liftE K w tb) σ H Q := by
  obtain ⟨G, F, ρ, k, R, ht, hp⟩ := h
  refine ⟨G, F, ρ, _, R, ht, fun x v F' H' hx n r => ?_⟩
  obtain ⟨b, rfl, hb⟩ := isB_some hx
  cases r
  refine ⟨b, rfl, ?_⟩
  cases b with
  | true => exact ⟨G, F', ρ, _, R.nw n, hb, fun x v F2 H2 hc n2 r2 => hp x v F2 H2 hc (n.trans n2) r2⟩
  | false => exact hp _ _ F' H' hb n (.bl _)
theorem lift_OrV {ta tb : TX} (σ : L2.St) (H : Hp) (Q : VK) (h : liftE K w (xOr ta tb) σ H Q) : tOrV (liftE K w ta) (liftE K w tb) σ H Q := by
  obtain ⟨G, F, ρ, k, R, ht, hp⟩ := h
  refine ⟨G, F, ρ, _, R, ht, fun x v F' H' hx n r => ?_⟩
  obtain ⟨b, rfl, hb⟩ := isB_some hx
  cases r
  refine ⟨b, rfl, ?_⟩
  cases b with
  | true => exact hp _ _ F' H' hb n (.bl _)
  | false => exact ⟨G, F', ρ, _, R.nw n, hb, fun x v F2 H2 hc n2 r2 => hp x v F2 H2 hc (n.trans n2) r2⟩
theorem lift_IfE {t : TXT} {ta tb : TX} (σ : L2.St) (H : Hp) (Q : VK) (h : liftE K w (xIfE t ta tb) σ H Q) : tIf (liftT K w t) (liftE K w ta) (liftE K w tb) σ H Q := by
  obtain ⟨G, F, ρ, k, R, ht, hp⟩ := h
  refine ⟨G, F, ρ, _, R, ht, fun b F' H' hb n => ?_⟩
  cases b with
  | true => exact ⟨G, F', ρ, _, R.nw n, hb, fun x v F2 H2 hc n2 r2 => hp x v F2 H2 hc (n.trans n2) r2⟩
  | false => exact ⟨G, F', ρ, _, R.nw n, hb, fun x v F2 H2 hc n2 r2 => hp x v F2 H2 hc (n.trans n2) r2⟩
end
section
variable {X : Cx} {a b e : Expr} {rest : List Expr} {ta tb : TX} {t u : TXT} {tr : TXR} {pos : Pos} {g : Op2}
theorem pxt_cmp {op : CmpOp} (ho : OpR X (compareOp op) (rD X.K X.w g)) (ha : PX X a ta) (hb : PX X b tb) (hm : behindInMarks op b = false := by first | exact nomark _ | rfl) : PXT X (.Compare a [op] [b] pos) (tB1 (xBin g ta tb)) :=
  PT.weak (pt_cmpR ho ha hb hm) fun σ H Q h => by
    obtain ⟨G, F, ρ, k, R, ht, hp⟩ := h
    refine lift_bin σ H _ ⟨G, F, ρ, _, R, ht, fun x v F' H' hx n r => ?_⟩
    obtain ⟨b, rfl, hb⟩ := isB_some hx
    cases r
    exact ⟨b, rfl, hp b F' H' hb n⟩
theorem pxt_in {tb : TXR} (hu : X.A.units + 65 < cLine) (ha : PX X a ta) (hb : PR X b tb) (hm : behindInMarks .In b = false := by rfl) : PXT X (.Compare a [.In] [b] pos) (tB1 (xIn ta tb (inD false))) :=
  PT.weak (pt_cmpR (op_inP false hu) ha hb hm) fun σ H Q h => by
    obtain ⟨G, F, ρ, k, R, ht, hp⟩ := h
    refine lift_in σ H _ ⟨G, F, ρ, _, R, ht, fun x v F' H' hx n r => ?_⟩
    obtain ⟨b, rfl, hb⟩ := isB_some hx
    cases r
    exact ⟨b, rfl, hp b F' H' hb n⟩
theorem pxt_notIn {tb : TXR} (hu : X.A.units + 65 < cLine) (ha : PX X a ta) (hb : PR X b tb) (hm : behindInMarks .NotIn b = false := by rfl) : PXT X (.Compare a [.NotIn] [b] pos) (tB1 (xIn ta tb (inD true))) :=
  PT.weak (pt_cmpR (op_inP true hu) ha hb hm) fun σ H Q h => by
    obtain ⟨G, F, ρ, k, R, ht, hp⟩ := h
    refine lift_in σ H _ ⟨G, F, ρ, _, R, ht, fun x v F' H' hx n r => ?_⟩
    obtain ⟨b, rfl, hb⟩ := isB_some hx
    cases r
    exact ⟨b, rfl, hp b F' H' hb n⟩
theorem pxt_val (h : PX X e ta) (he : ∀ whole, isTrue e X.env whole = (do let v ← whole; standAt e.pos; holding [v] (truthy v)) := by intro _; rfl) : PXT X e (tB1 ta) := PT.weak (pt_val h he) lift_B
theorem pxt_tru (h : PR X e tr) (he : ∀ whole, isTrue e X.env whole = (do let v ← whole; standAt e.pos; holding [v] (truthy v)) := by intro _; rfl) : PXT X e (tTr tr) := PT.weak (pt_truth h he) lift_Tr
theorem pxw_and1 (h : PXT X a t) : PXW X (.BoolOp .And [a] pos) t := pw_and1 h
theorem pxw_or1 (h : PXT X a t) : PXW X (.BoolOp .Or [a] pos) t := pw_or1 h
theorem pxw_and (ha : PXT X a t) (hb : PXW X (.BoolOp .And (b :: rest) pos) u) : PXW X (.BoolOp .And (a :: b :: rest) pos) (tAnd1 t u) := PW.weak (pw_and ha hb) lift_And1
theorem pxw_or (ha : PXT X a t) (hb : PXW X (.BoolOp .Or (b :: rest) pos) u) : PXW X (.BoolOp .Or (a :: b :: rest) pos) (tOr1 t u) := PW.weak (pw_or ha hb) lift_Or1
theorem pxt_w (h : PXW X e t) : PXT X e t := h.pt
theorem pxt_not (h : PXT X a t) : PXT X (.UnaryOp .Not a pos) (tNot1 t) := PT.weak (pt_not h) lift_Not1
theorem px_one {op : BoolOp} (h : PX X a ta) : PX X (.BoolOp op [a] pos) ta := pe_one h
theorem px_and (ha : PX X a ta) (hb : PX X (.BoolOp .And (b :: rest) pos) tb) : PX X (.BoolOp .And (a :: b :: rest) pos) (xAnd ta tb) := PE.weak (pe_and ha hb) lift_AndV
theorem px_or (ha : PX X a ta) (hb : PX X (.BoolOp .Or (b :: rest) pos) tb) : PX X (.BoolOp .Or (a :: b :: rest) pos) (xOr ta tb) := PE.weak (pe_or ha hb) lift_OrV
theorem px_not (h : PR X a tr) : PX X (.UnaryOp .Not a pos) (xNot tr) := PE.weak (pe_notT h) lift_Not
theorem px_ifE {c : Expr} (hc : PXT X c t) (ha : PX X a ta) (hb : PX X b tb) : PX X (.IfExp c a b pos) (xIfE t ta tb) := PE.weak (pe_ifExp hc ha hb) lift_IfE
end

def xChain (g g' : Op2) (ta tb tc : TX) : TX := fun ρ k => ta ρ fun x => tb ρ fun y => g x y fun z => isB z fun b => if b = true then tc ρ fun w => g' y w k else k (.bl false)
section
variable {K : PySem.W.Frag} {w : World}
theorem lift_chain {g g' : Op2} {ta tb tc : TX} (σ : L2.St) (H : Hp) (Q : VK) (h : liftE K w (xChain g g' ta tb tc) σ H Q) : tChain (rD K w g) (rD K w g') (liftE K w ta) (liftE K w tb) (liftE K w tc) σ H Q := by
  obtain ⟨G, F, ρ, k, R, ht, hp⟩ := h
  refine ⟨G, F, ρ, _, R, ht, fun x v F1 H1 hx n1 r1 => ⟨G, F1, ρ, _, R.nw n1, hx, fun y u F2 H2 hy n2 r2 => ⟨F2, x, y, _, n2.fh, Rp.same n2.ff r1, r2, hy, fun z v' F3 H3 hz n3 r3 => ?_⟩⟩⟩
  obtain ⟨b, rfl, hb⟩ := isB_some hz
  cases r3
  refine ⟨b, rfl, ?_⟩
  cases b with
  | true => exact ⟨G, F3, ρ, _, ((R.nw n1).nw n2).nw n3, hb, fun x4 v4 F4 H4 h4 n4 r4 => ⟨F4, y, x4, k, n4.fh, Rp.same (n3.ff.trans n4.ff) r2, r4, h4, fun z5 v5 F5 H5 h5 n5 r5 => hp z5 v5 F5 H5 h5 ((((n1.trans n2).trans n3).trans n4).trans n5) r5⟩⟩
  | false => exact hp _ _ F3 H3 hb ((n1.trans n2).trans n3) (.bl _)
end
section
variable {X : Cx} {a b c : Expr} {ta tb tc : TX} {pos : Pos} {g g' : Op2} {op op' : CmpOp}
theorem px_chain (ho : OpR X (compareOp op) (rD X.K X.w g)) (ho' : OpR X (compareOp op') (rD X.K X.w g')) (ha : PX X a ta) (hb : PX X b tb) (hc : PX X c tc) (hm : lastMarks [op, op'] [b, c] = false := by with_unfolding_all rfl) :
    PX X (.Compare a [op, op'] [b, c] pos) (xChain g g' ta tb tc) := PE.weak (pe_chain ho ho' ha hb hc hm) lift_chain
theorem pxt_chain (ho : OpR X (compareOp op) (rD X.K X.w g)) (ho' : OpR X (compareOp op') (rD X.K X.w g')) (ha : PX X a ta) (hb : PX X b tb) (hc : PX X c tc) (hm : lastMarks [op, op'] [b, c] = false := by with_unfolding_all rfl) :
    PXT X (.Compare a [op, op'] [b, c] pos) (tB1 (xChain g g' ta tb tc)) := PT.weak (pt_chain ho ho' ha hb hc hm) fun σ H Q h => by
    obtain ⟨G, F, ρ, k, R, ht, hp⟩ := h
    refine lift_chain σ H _ ⟨G, F, ρ, _, R, ht, fun x v F' H' hx n r => ?_⟩
    obtain ⟨b, rfl, hb⟩ := isB_some hx
    cases r
    exact ⟨b, rfl, hp b F' H' hb n⟩
end

def aNil : TXA := fun _ k => k []
def aCons (t : TXR) (r : TXA) : TXA := fun ρ k => t ρ fun x => r ρ fun xs => k (x :: xs)
section
variable {K : PySem.W.Frag} {w : World}
theorem lift_nil (σ : L2.St) (H : Hp) (Q : List V → Hp → Prop) (h : liftA K w aNil σ H Q) : tNil σ H Q := by
  obtain ⟨G, F, ρ, k, R, ht, hp⟩ := h
  exact hp [] [] F H ht (.refl R.fh) .nil
theorem lift_cons {t : TXR} {r : TXA} (σ : L2.St) (H : Hp) (Q : List V → Hp → Prop) (h : liftA K w (aCons t r) σ H Q) : tCons (liftR K w t) (liftA K w r) σ H Q := by
  obtain ⟨G, F, ρ, k, R, ht, hp⟩ := h
  exact ⟨G, F, ρ, _, R, ht, fun x v F1 H1 hx n1 r1 => ⟨G, F1, ρ, _, R.nw n1, hx, fun xs vs F2 H2 hxs n2 r2 => hp (x :: xs) (v :: vs) F2 H2 hxs (n1.trans n2) (.cons (r1.nw n2) r2)⟩⟩
end
section
variable {X : Cx} {e : Expr} {es : List Expr} {t : TXR} {r : TXA} {pos : Pos}
theorem pxa_nil : PXA X [] aNil := PA.weak pa_nil lift_nil
theorem pxa_cons (h : PR X e t) (hr : PXA X es r) (hs : starEach (e :: es) X.env = (false, eval e X.env) :: starEach es X.env := by rfl) : PXA X (e :: es) (aCons t r) := PA.weak (pa_cons h hr hs) lift_cons
end
/-- all of them data that stay -/
def allD : List PV → Option (List D)
  | [] => some []
  | .d x :: r => match allD r with | some xs => some (x :: xs) | none => none
  | _ :: _ => none
theorem allD_rp {K : PySem.W.Frag} {w : World} {F H : Hp} : ∀ {pvs : List PV} {vs : List V} {ds : List D}, RdA K w F H vs pvs → allD pvs = some ds → RpA K w F vs ds
  | [], _, ds, h, e => by
    cases h
    cases e
    exact .nil
  | .d x :: r, _, ds, h, e => by
    cases h with
    | cons h1 h2 =>
      have e' : (match allD r with | some xs => some (x :: xs) | none => none) = some ds := e
      cases q : allD r with
      | none => rw [q] at e'; cases e'
      | some xs =>
        rw [q] at e'
        cases e'
        exact .cons h1 (allD_rp h2 q)
  | .own _ :: _, _, _, _, e => by cases e
  | .odic _ _ :: _, _, _, _, e => by cases e
def withD (pvs : List PV) (k : List D → Prop) : Prop := match allD pvs with
  | some ds => k ds
  | none => False
theorem withD_some {pvs : List PV} {k : List D → Prop} (h : withD pvs k) : ∃ ds, allD pvs = some ds ∧ k ds := by
  unfold withD at h
  split at h
  · exact ⟨_, by assumption, h⟩
  · exact h.elim
def xTup (r : TXA) : TX := fun ρ k => r ρ fun pvs => withD pvs fun ds => Sm ds.length ∧ k (.tup ds)
def fLst (r : TXA) : PEnv → (List D → Prop) → Prop := fun ρ k => r ρ fun pvs => withD pvs fun ds => Sm ds.length ∧ k ds
section
variable {K : PySem.W.Frag} {w : World}
theorem lift_tup {r : TXA} (σ : L2.St) (H : Hp) (Q : VK) (h : liftE K w (xTup r) σ H Q) : tTup (liftA K w r) σ H Q := by
  obtain ⟨G, F, ρ, k, R, ht, hp⟩ := h
  refine ⟨G, F, ρ, _, R, ht, fun pvs vs F1 H1 hx n1 r1 => ?_⟩
  obtain ⟨ds, e, sm, hk⟩ := withD_some hx
  have ra := allD_rp r1 e
  refine ⟨by rw [ra.length]; exact sm.line, fun p hp0 => ?_⟩
  exact post_tup (fun x v F' H' a n b => hp x v F' H' a (n1.trans n) b) n1.fh hk ra hp0
theorem lift_lst {r : TXA} (σ : L2.St) (H : Hp) (Q : VK) (h : liftF K w (fLst r) σ H Q) : tLst (liftA K w r) σ H Q := by
  obtain ⟨G, F, ρ, k, R, ht, hp⟩ := h
  refine ⟨G, F, ρ, _, R, ht, fun pvs vs F1 H1 hx n1 r1 => ?_⟩
  obtain ⟨ds, e, sm, hk⟩ := withD_some hx
  have ra := allD_rp r1 e
  refine ⟨by rw [ra.length]; exact sm.line, fun p hp0 => ?_⟩
  exact hp ds vs p F1 _ hk (n1.trans (.own n1.fh hp0)) (none_of_same n1.hh hp0) (none_of_same n1.fh hp0) upd_same ra
end
section
variable {X : Cx} {es : List Expr} {r : TXA} {pos : Pos}
theorem px_tup {x1} (h : PXA X es r) : PX X (.Tuple es x1 pos) (xTup r) := PE.weak (pe_tup h) lift_tup
theorem pf_lst (h : PXA X es r) : PF X (.List es pos) (fLst r) := PE.weak (pe_lst h) lift_lst
end

def xCall (g : List D → (D → Prop) → Prop) (r : TXA) : TX := fun ρ k => r ρ fun pvs => g (pvs.map PV.dat) k
def rC (K : PySem.W.Frag) (w : World) (g : List D → (D → Prop) → Prop) : List V → Hp → VK → Prop := fun vs H Q => ∃ F pvs k, Same F H ∧ RdA K w F H vs pvs ∧ g (pvs.map PV.dat) k ∧ Post K w F H k Q
theorem lift_call {K : PySem.W.Frag} {w : World} {g : List D → (D → Prop) → Prop} {r : TXA} (σ : L2.St) (H : Hp) (Q : VK) (h : liftE K w (xCall g r) σ H Q) : tCB (rC K w g) (liftA K w r) σ H Q := by
  obtain ⟨G, F, ρ, k, R, ht, hp⟩ := h
  exact ⟨G, F, ρ, _, R, ht, fun pvs vs F1 H1 hx n1 r1 => ⟨F1, pvs, k, n1.fh, r1, hx, fun z v F2 H2 hz n2 r2 => hp z v F2 H2 hz (n1.trans n2) r2⟩⟩
section
variable {X : Cx} {e : Expr} {es : List Expr} {g : List D → (D → Prop) → Prop} {r : TXA} {pos p : Pos} {x : Str}
theorem px_callB {id : String} (hc : CallR X (.builtin id) (rC X.K X.w g)) (hg : Gl X x) (hm : X.mg x = none) (hv : bootBuiltins x = some (.builtin id)) (ha : PXA X (e :: es) r) (hn : x ≠ "__name__" := by decide) (hdb : (x == ("__debug__" : Str)) = false := by decide)
    (he : starEach (e :: es) X.env = (false, eval e X.env) :: starEach es X.env := by rfl) (hpl : (backTo pos (starEach es X.env)).any (·.1) = false := by rfl) : PX X (.Call (.Name x p) (e :: es) [] pos) (xCall g r) := PE.weak (pe_callB hc hg hm hv ha hn hdb he hpl) lift_call
theorem px_callTy {T : String} (hc : CallR X (.type T) (rC X.K X.w g)) (hg : Gl X x) (hm : X.mg x = none) (hv : bootBuiltins x = some (.type T)) (ha : PXA X (e :: es) r) (hn : x ≠ "__name__" := by decide) (hdb : (x == ("__debug__" : Str)) = false := by decide)
    (he : starEach (e :: es) X.env = (false, eval e X.env) :: starEach es X.env := by rfl) (hpl : (backTo pos (starEach es X.env)).any (·.1) = false := by rfl) : PX X (.Call (.Name x p) (e :: es) [] pos) (xCall g r) := PE.weak (pe_callTy hc hg hm hv ha hn hdb he hpl) lift_call
end
end PL
end

section
set_option Elab.async false
set_option linter.all false
set_option maxRecDepth 100000
set_option maxHeartbeats 2000000
set_option autoImplicit false
namespace PL
open PySem PySem.Spec PyProof.Rows L2

def lenD : List D → (D → Prop) → Prop
  | [.str z], k => Sm z.length ∧ k (.int z.length)
  | [.tup xs], k => k (.int xs.length)
  | [.lst xs], k => k (.int xs.length)
  | _, _ => False
def absD : List D → (D → Prop) → Prop
  | [.int i], k => k (.int (if i < 0 then -i else i))
  | _, _ => False
def intD : List D → (D → Prop) → Prop
  | [.int i], k => k (.int i)
  | _, _ => False
def maxD2 : List D → (D → Prop) → Prop
  | [.int i, .int j], k => k (.int (if j > i then j else i))
  | _, _ => False
def minD2 : List D → (D → Prop) → Prop
  | [.int i, .int j], k => k (.int (if j < i then j else i))
  | _, _ => False
def maxD3 : List D → (D → Prop) → Prop
  | [.int i, .int j, .int l], k => k (.int (max i (max j l)))
  | _, _ => False
def minD3 : List D → (D → Prop) → Prop
  | [.int i, .int j, .int l], k => k (.int (min i (min j l)))
  | _, _ => False
/-- tuple(xs) -/
def tupleD : List D → (D → Prop) → Prop
  | [.lst xs], k => k (.tup xs)
  | [.tup xs], k => k (.tup xs)
  | _, _ => False
theorem map1 {pvs : List PV} {d : D} (h : pvs.map PV.dat = [d]) : ∃ p, pvs = [p] ∧ p.dat = d := by
  match pvs, h with
  | [p], h => exact ⟨p, rfl, by simpa using h⟩
theorem map2 {pvs : List PV} {d e : D} (h : pvs.map PV.dat = [d, e]) : ∃ p q, pvs = [p, q] ∧ p.dat = d ∧ q.dat = e := by
  match pvs, h with
  | [p, q], h =>
    simp at h
    exact ⟨p, q, rfl, h.1, h.2⟩
theorem map3 {pvs : List PV} {d e f : D} (h : pvs.map PV.dat = [d, e, f]) : ∃ p q r, pvs = [p, q, r] ∧ p.dat = d ∧ q.dat = e ∧ r.dat = f := by
  match pvs, h with
  | [p, q, r], h =>
    simp at h
    exact ⟨p, q, r, rfl, h.1, h.2.1, h.2.2⟩
theorem Rd1.int {K : PySem.W.Frag} {w : World} {F H : Hp} {v : V} {pv : PV} {i : Int} (h : Rd1 K w F H v pv) (e : pv.dat = .int i) : v = .int i := by
  have := h.flat e ⟨fun _ q => (by cases q), fun _ _ q => (by cases q)⟩
  cases this
  rfl
theorem Rd1.str {K : PySem.W.Frag} {w : World} {F H : Hp} {v : V} {pv : PV} {i : Str} (h : Rd1 K w F H v pv) (e : pv.dat = .str i) : v = .str i := by
  have := h.flat e ⟨fun _ q => (by cases q), fun _ _ q => (by cases q)⟩
  cases this
  rfl
section
variable {X : Cx}
theorem cr_len : CallR X (.builtin "len") (rC X.K X.w lenD) := by
  intro pins s σ H vs us Q I r h
  obtain ⟨F, pvs, k, fh, ra, hg, hp⟩ := h
  generalize e : pvs.map PV.dat = ds at hg
  match ds, hg, e with
  | [.str z], hg, e =>
    obtain ⟨p, rfl, e1⟩ := map1 e
    cases ra with
    | cons a b =>
      cases b
      obtain rfl := a.str e1
      exact call_len pins s σ H _ _ Q I r ⟨_, z.length, rfl, ⟨hg.1.line, rfl⟩, post_here hp fh hg.2 (.int _)⟩
  | [.tup xs], hg, e =>
    obtain ⟨p, rfl, e1⟩ := map1 e
    cases ra with
    | cons a b =>
      cases b
      obtain ⟨q, vs, rfl, _, h2, h3⟩ := a.tup e1 fh
      exact call_len pins s σ H _ _ Q I r ⟨_, xs.length, rfl, .inr ⟨vs, h2, h3.length.symm⟩, post_here hp fh hg (.int _)⟩
  | [.lst xs], hg, e =>
    obtain ⟨p, rfl, e1⟩ := map1 e
    cases ra with
    | cons a b =>
      cases b
      obtain ⟨q, vs, rfl, h2, h3⟩ := a.lst e1 fh
      exact call_len pins s σ H _ _ Q I r ⟨_, xs.length, rfl, .inl ⟨vs, SqL.of h2, h3.length.symm⟩, post_here hp fh hg (.int _)⟩
theorem cr_abs : CallR X (.builtin "abs") (rC X.K X.w absD) := by
  intro pins s σ H vs us Q I r h
  obtain ⟨F, pvs, k, fh, ra, hg, hp⟩ := h
  generalize e : pvs.map PV.dat = ds at hg
  match ds, hg, e with
  | [.int i], hg, e =>
    obtain ⟨p, rfl, e1⟩ := map1 e
    cases ra with
    | cons a b =>
      cases b
      obtain rfl := a.int e1
      exact call_abs pins s σ H _ _ Q I r ⟨_, rfl, post_here hp fh hg (.int _)⟩
theorem cr_int : CallR X (.type "int") (rC X.K X.w intD) := by
  intro pins s σ H vs us Q I r h
  obtain ⟨F, pvs, k, fh, ra, hg, hp⟩ := h
  generalize e : pvs.map PV.dat = ds at hg
  match ds, hg, e with
  | [.int i], hg, e =>
    obtain ⟨p, rfl, e1⟩ := map1 e
    cases ra with
    | cons a b =>
      cases b
      obtain rfl := a.int e1
      exact call_int1 pins s σ H _ _ Q I r (.inl ⟨_, rfl, post_here hp fh hg (.int _)⟩)
theorem cr_max2 (hc : X.calm = true) : CallR X (.builtin "max") (rC X.K X.w maxD2) := by
  intro pins s σ H vs us Q I r h
  obtain ⟨F, pvs, k, fh, ra, hg, hp⟩ := h
  generalize e : pvs.map PV.dat = ds at hg
  match ds, hg, e with
  | [.int i, .int j], hg, e =>
    obtain ⟨p, q, rfl, e1, e2⟩ := map2 e
    cases ra with
    | cons a b =>
      cases b with
      | cons b c =>
        cases c
        obtain rfl := a.int e1
        obtain rfl := b.int e2
        exact call_max2 hc pins s σ H _ _ Q I r ⟨_, _, rfl, post_here hp fh hg (.int _)⟩
theorem cr_min2 (hc : X.calm = true) : CallR X (.builtin "min") (rC X.K X.w minD2) := by
  intro pins s σ H vs us Q I r h
  obtain ⟨F, pvs, k, fh, ra, hg, hp⟩ := h
  generalize e : pvs.map PV.dat = ds at hg
  match ds, hg, e with
  | [.int i, .int j], hg, e =>
    obtain ⟨p, q, rfl, e1, e2⟩ := map2 e
    cases ra with
    | cons a b =>
      cases b with
      | cons b c =>
        cases c
        obtain rfl := a.int e1
        obtain rfl := b.int e2
        exact call_min2 hc pins s σ H _ _ Q I r ⟨_, _, rfl, post_here hp fh hg (.int _)⟩
theorem cr_tuple : CallR X (.type "tuple") (rC X.K X.w tupleD) := by
  intro pins s σ H vs us Q I r h
  obtain ⟨F, pvs, k, fh, ra, hg, hp⟩ := h
  generalize e : pvs.map PV.dat = ds at hg
  match ds, hg, e with
  | [.tup xs], hg, e =>
    obtain ⟨p, rfl, e1⟩ := map1 e
    cases ra with
    | cons a b =>
      cases b
      obtain ⟨q, vs, rfl, h1, h2, h3⟩ := a.tup e1 fh
      exact call_tuple_of pins s σ H _ _ Q I r ⟨_, vs, rfl, .inr ⟨h2, post_here hp fh hg (.tup h1 h3)⟩⟩
  | [.lst xs], hg, e =>
    obtain ⟨p, rfl, e1⟩ := map1 e
    cases ra with
    | cons a b =>
      cases b
      obtain ⟨q, vs, rfl, h2, h3⟩ := a.lst e1 fh
      exact call_tuple_of pins s σ H _ _ Q I r ⟨_, vs, rfl, .inl ⟨SqL.of h2, fun l hl => post_tup hp fh hg h3 hl⟩⟩
end
end PL
end

section
set_option Elab.async false
set_option linter.all false
set_option maxRecDepth 100000
set_option maxHeartbeats 2000000
set_option autoImplicit false
namespace PL
open PySem PySem.Spec PyProof.Rows L2

theorem nuLt_int (i j : Int) : nuLt (.int i) (.int j) = some (decide (i < j)) := rfl
theorem nuMax3_int (i j l : Int) : nuMax3 (.int i) (.int j) (.int l) = some (.int (max i (max j l))) := by
  have e2 : ∀ i j : Int, nuMax2 (.int i) (.int j) = some (.int (max i j)) := fun i j => by
    unfold nuMax2
    rw [nuLt_int]
    by_cases h : i < j
    · rw [decide_eq_true h, Int.max_eq_right (by omega)]; rfl
    · rw [decide_eq_false h, Int.max_eq_left (by omega)]; rfl
  unfold nuMax3
  rw [e2]
  show nuMax2 _ _ = _
  rw [e2]
  congr 2
  omega
theorem nuMin3_int (i j l : Int) : nuMin3 (.int i) (.int j) (.int l) = some (.int (min i (min j l))) := by
  have e2 : ∀ i j : Int, nuMin2 (.int i) (.int j) = some (.int (min i j)) := fun i j => by
    unfold nuMin2
    rw [nuLt_int]
    by_cases h : j < i
    · rw [decide_eq_true h, Int.min_eq_right (by omega)]; rfl
    · rw [decide_eq_false h, Int.min_eq_left (by omega)]; rfl
  unfold nuMin3
  rw [e2]
  show nuMin2 _ _ = _
  rw [e2]
  congr 2
  omega
section
variable {X : Cx}
theorem cr_max3 (hc : X.calm = true) : CallR X (.builtin "max") (rC X.K X.w maxD3) := by
  intro pins s σ H vs us Q I r h
  obtain ⟨F, pvs, k, fh, ra, hg, hp⟩ := h
  generalize e : pvs.map PV.dat = ds at hg
  match ds, hg, e with
  | [.int i, .int j, .int l], hg, e =>
    obtain ⟨p, q, o, rfl, e1, e2, e3⟩ := map3 e
    cases ra with
    | cons a b =>
      cases b with
      | cons b c =>
        cases c with
        | cons c d =>
          cases d
          obtain rfl := a.int e1
          obtain rfl := b.int e2
          obtain rfl := c.int e3
          exact call_max3Nu hc pins s σ H _ _ Q I r ⟨_, _, _, _, rfl, nuMax3_int i j l, post_here hp fh hg (.int _)⟩
theorem cr_min3 (hc : X.calm = true) : CallR X (.builtin "min") (rC X.K X.w minD3) := by
  intro pins s σ H vs us Q I r h
  obtain ⟨F, pvs, k, fh, ra, hg, hp⟩ := h
  generalize e : pvs.map PV.dat = ds at hg
  match ds, hg, e with
  | [.int i, .int j, .int l], hg, e =>
    obtain ⟨p, q, o, rfl, e1, e2, e3⟩ := map3 e
    cases ra with
    | cons a b =>
      cases b with
      | cons b c =>
        cases c with
        | cons c d =>
          cases d
          obtain rfl := a.int e1
          obtain rfl := b.int e2
          obtain rfl := c.int e3
          exact call_min3Nu hc pins s σ H _ _ Q I r ⟨_, _, _, _, rfl, nuMin3_int i j l, post_here hp fh hg (.int _)⟩
end

/-- the ints of a row, if they are ints -/
def intsD : List D → Option (List Int)
  | [] => some []
  | .int i :: r => match intsD r with | some ns => some (i :: ns) | none => none
  | _ :: _ => none
theorem intsD_map : ∀ {ds : List D} {ns : List Int}, intsD ds = some ns → ds = ns.map D.int
  | [], ns, h => by cases h; rfl
  | d :: r, ns, h => by
    cases d with
    | int i =>
      have h' : (match intsD r with | some ns => some (i :: ns) | none => none) = some ns := h
      cases q : intsD r with
      | none => rw [q] at h'; cases h'
      | some ms =>
        rw [q] at h'
        cases h'
        rw [intsD_map q]
        rfl
    | _ => cases h
@[simp] theorem intsD_ints (ns : List Int) : intsD (ns.map D.int) = some ns := by
  induction ns with
  | nil => rfl
  | cons n ns ih =>
    show (match intsD (ns.map D.int) with | some ns => some (n :: ns) | none => none) = _
    rw [ih]
def maxOf : Int → List Int → Int
  | d, [] => d
  | _, n :: ns => ns.foldl max n
def maxDef (xs : List D) (y : D) (k : D → Prop) : Prop := match intsD xs, y with
  | some ns, .int d => k (.int (maxOf d ns))
  | _, _ => False
def xMaxDef (r : TXA) (q : TX) : TX := fun ρ k => r ρ fun pvs => q ρ fun y => match pvs.map PV.dat with
  | [.lst xs] => maxDef xs y k
  | [.tup xs] => maxDef xs y k
  | _ => False
theorem maxDef_some {xs : List D} {y : D} {k : D → Prop} (h : maxDef xs y k) : ∃ ns d, xs = ns.map D.int ∧ y = .int d ∧ k (.int (maxOf d ns)) := by
  unfold maxDef at h
  split at h
  · rename_i ns d e
    exact ⟨ns, d, intsD_map e, rfl, h⟩
  · exact h.elim
theorem reads_ints {h : Heap} : ∀ {us : List Value} {ns : List Int}, IntsAre us ns → ∃ as, ReadsAll h us (ns.map PyData.int) as
  | _, _, .nil => ⟨_, .nil⟩
  | _, _, .cons n t r => by
    obtain ⟨as, q⟩ := reads_ints (h := h) r
    exact ⟨_, .cons (.int n t) q⟩
theorem alike_ints (ns : List Int) : PySem.W.AlikeAll (ns.map PyData.int) := by
  refine ⟨fun x hx y hy => ?_, fun x hx e => ?_⟩
  · obtain ⟨i, _, rfl⟩ := List.mem_map.mp hx
    obtain ⟨j, _, rfl⟩ := List.mem_map.mp hy
    rfl
  · obtain ⟨i, _, rfl⟩ := List.mem_map.mp hx
    cases e
theorem depth_ints : ∀ ns : List Int, PyData.depthAll (ns.map PyData.int) = 0
  | [] => by simp [PyData.depthAll]
  | n :: ns => by simp [PyData.depthAll, PyData.depth, depth_ints ns]
def rMaxDef (K : PySem.W.Frag) : List V → List V → Hp → VK → Prop := fun vs zs H Q => ∃ a ns d, vs = [.ref a] ∧ zs = [.int d] ∧ (SqL K H a (ns.map V.int) ∨ SqT K H a (ns.map V.int)) ∧ Q (.int (maxOf d ns)) H
section
variable {X : Cx}
theorem cr_maxDef (hu : X.A.units + 65 < cLine) (hc : X.calm = true) : CallRK X (.builtin "max") [Str.ofString "default"] (rMaxDef X.K) := by
  intro pins s σ H vs zs us ws Q I r rz h
  obtain ⟨a, ns, d, rfl, rfl, hs, q⟩ := h
  rw [Vals.ref1 r]
  obtain ⟨u, rfl, t, rfl⟩ := Vals.one rz
  show wpAny _ _ (call (.builtin "max") [.ref a] [(Str.ofString "default", Value.int d t)]) _ _ _
  have h0 : ns.map PyData.int = [] → ∀ h' tk, (∀ b o, s.heap.get? b = some o → h'.get? b = some o) → EP X pins σ Q (.int d t) { s with heap := h', toks := tk } := fun e h' tk hk => by
    have e' : ns = [] := List.map_eq_nil_iff.mp e
    subst e'
    exact ⟨.int d, H, I.kept hk, ⟨t, rfl⟩, q⟩
  have h1 : ∀ (y : PyData) (ys : List PyData) (v : Value) (h' : Heap) (tk : Nat) (bs : List Addr), ns.map PyData.int = y :: ys → Reads h' v (PySem.W.maxD y ys) bs → (∀ b o, s.heap.get? b = some o → h'.get? b = some o) → EP X pins σ Q v { s with heap := h', toks := tk } := fun y ys v h' tk bs e hr hk => by
    cases ns with
    | nil => cases e
    | cons n ns =>
      rw [List.map_cons] at e
      cases e
      rw [PySem.W.maxD_ints] at hr
      cases hr with
      | int i t' => exact ⟨.int _, H, I.kept hk, ⟨t', rfl⟩, q⟩
  rcases hs with hs | hs
  · obtain ⟨its, rv, pl, hz⟩ := I.list hs
    obtain ⟨as, hr⟩ := reads_ints (h := s.heap) (Vals.ints rv)
    exact PySem.W.max_list_default (I.ok.hd hc) pl.isList (by simpa using hr) (alike_ints ns) (by rw [depth_ints]; omega) h0 fun y ys i v h' tk bs e _ hr hk => h1 y ys v h' tk bs e hr hk
  · obtain ⟨its, rv, pl, hz⟩ := I.tuple hs
    obtain ⟨as, hr⟩ := reads_ints (h := s.heap) (Vals.ints rv)
    exact PySem.W.max_tuple_default (I.ok.hd hc) pl (by simpa using hr) (alike_ints ns) (by rw [depth_ints]; omega) h0 fun y ys i v h' tk bs e _ hr hk => h1 y ys v h' tk bs e hr hk
theorem lift_maxDef {K : PySem.W.Frag} {w : World} {r : TXA} {q : TX} (σ : L2.St) (H : Hp) (Q : VK) (h : liftE K w (xMaxDef r q) σ H Q) : tCKw (rMaxDef K) (liftA K w r) (tCons (liftE K w q) tNil) σ H Q := by
  obtain ⟨G, F, ρ, k, R, ht, hp⟩ := h
  refine ⟨G, F, ρ, _, R, ht, fun pvs vs F1 H1 hx n1 r1 => ⟨G, F1, ρ, _, R.nw n1, hx, fun y v F2 H2 hy n2 r2 => ?_⟩⟩
  generalize e : pvs.map PV.dat = ds at hy
  match ds, hy, e with
  | [.lst xs], hy, e =>
    obtain ⟨p, rfl, e1⟩ := map1 e
    obtain ⟨ns, d, rfl, rfl, hk⟩ := maxDef_some hy
    cases r1 with
    | cons a b =>
      cases b
      obtain ⟨q, us, rfl, h2, h3⟩ := (a.nw n2).lst e1 n2.fh
      cases r2
      exact ⟨q, ns, d, rfl, rfl, .inl (SqL.of (by rw [← h3.ints]; exact h2)), hp _ _ F2 H2 hk (n1.trans n2) (.int _)⟩
  | [.tup xs], hy, e =>
    obtain ⟨p, rfl, e1⟩ := map1 e
    obtain ⟨ns, d, rfl, rfl, hk⟩ := maxDef_some hy
    cases r1 with
    | cons a b =>
      cases b
      obtain ⟨q, us, rfl, _, h2, h3⟩ := (a.nw n2).tup e1 n2.fh
      cases r2
      exact ⟨q, ns, d, rfl, rfl, .inr (by rw [← h3.ints]; exact h2), hp _ _ F2 H2 hk (n1.trans n2) (.int _)⟩
theorem px_maxDef {e d : Expr} {te : TXR} {td : TX} {p pos kp : Pos} (hu : X.A.units + 65 < cLine) (hc : X.calm = true) (hg : Gl X "max") (hm : X.mg "max" = none) (he : PR X e te) (hd : PX X d td)
    (h1 : starEach [e] X.env = (false, eval e X.env) :: starEach [] X.env := by rfl)
    (he' : backTo pos (starEach [e] X.env) = (false, eval e X.env) :: backTo pos (starEach [] X.env) := by rfl) (hpl : (backTo pos (starEach [e] X.env)).any (·.1) = false := by rfl)
    (hall : (backToKw pos (keywordEach [⟨some "default", d, kp⟩] X.env)).all (·.1.isSome) = true := by rfl) (hnone : (backToKw pos (keywordEach [⟨some "default", d, kp⟩] X.env)).any (·.1.isNone) = false := by rfl)
    (hks : (backToKw pos (keywordEach [⟨some "default", d, kp⟩] X.env)).filterMap (·.1) = [Str.ofString "default"] := by rfl) :
    PX X (.Call (.Name "max" p) [e] [⟨some "default", d, kp⟩] pos) (xMaxDef (aCons te aNil) td) :=
  PE.weak (pe_callBK (cr_maxDef hu hc) hg hm boot_max (pxa_cons he pxa_nil h1) (pk_cons hd pk_nil) (by decide) (by decide) he' hpl hall hnone hks) lift_maxDef
end
end PL
end

section
set_option Elab.async false
set_option linter.all false
set_option maxRecDepth 100000
set_option maxHeartbeats 2000000
set_option autoImplicit false
namespace PL
open PySem PySem.Spec PyProof.Rows L2

def tyName : D → String
  | .non => "NoneType" | .bl _ => "bool" | .int _ => "int" | .str _ => "str" | .tup _ => "tuple" | .lst _ => "list" | .dic _ _ => "dict" | .dik _ _ => "dict" | .pot => "list"
def isTupD : D → Bool
  | .tup _ => true | _ => false
def isStrD : D → Bool
  | .str _ => true | _ => false
def isIntD : D → Bool
  | .int _ => true | .bl _ => true | _ => false
def isBlD : D → Bool
  | .bl _ => true | _ => false
theorem kit_tup (d : D) : kitB (tyName d) "tuple" = some (isTupD d) := by cases d <;> (dsimp only [tyName, isTupD]; decide +kernel)
theorem kit_str (d : D) : kitB (tyName d) "str" = some (isStrD d) := by cases d <;> (dsimp only [tyName, isStrD]; decide +kernel)
theorem kit_int (d : D) : kitB (tyName d) "int" = some (isIntD d) := by cases d <;> (dsimp only [tyName, isIntD]; decide +kernel)
theorem kit_bl (d : D) : kitB (tyName d) "bool" = some (isBlD d) := by cases d <;> (dsimp only [tyName, isBlD]; decide +kernel)
def isDicD : D → Bool
  | .dic _ _ => true | .pot => true | _ => false
def xIsi (f : D → Bool) (ta : TXR) : TX := fun ρ k => ta ρ fun x => isDicD x.dat = false ∧ k (.bl (f x.dat))
theorem tyX_of {K : PySem.W.Frag} {w : World} {H : Hp} {v : V} {d : D} (r : Rp K w H v d) (hd : isDicD d = false) : TyX K H v (.type (tyName d)) := by
  cases r with
  | non => exact .base .non
  | bl b => exact .base (.bl b)
  | int i => exact .base (.int i)
  | str x => exact .base (.str x)
  | tup h1 h2 =>
    rcases h1 with (h1 | ⟨o, h1⟩) | ⟨o, its, n, h1, h3, _⟩
    · exact .base (.tup h1)
    · exact .fTuple h1
    · exact .kTuple h1 h3
  | lst h1 h2 => exact .base (.lst h1)
  | dicK h1 _ _ => exact .base (.dK h1)
  | dicN _ _ _ _ => cases hd
  | pot _ _ => cases hd
section
variable {X : Cx}
theorem px_isi {a : Expr} {ta : TXR} {T : String} {Tn : Str} {f : D → Bool} {p p2 pos : Pos} (hk : ∀ d, kitB (tyName d) T = some (f d)) (hg : Gl X "isinstance") (hm : X.mg "isinstance" = none) (hgT : Gl X Tn) (hmT : X.mg Tn = none) (hvT : bootBuiltins Tn = some (.type T)) (ha : PR X a ta)
    (hnT : Tn ≠ "__name__" := by decide) (hdT : (Tn == ("__debug__" : Str)) = false := by decide)
    (h1 : starEach [a, .Name Tn p2] X.env = (false, eval a X.env) :: starEach [.Name Tn p2] X.env := by rfl) (h2 : starEach [.Name Tn p2] X.env = (false, eval (.Name Tn p2) X.env) :: starEach [] X.env := by rfl)
    (hpl : (backTo pos (starEach [.Name Tn p2] X.env)).any (·.1) = false := by rfl) :
    PX X (.Call (.Name "isinstance" p) [a, .Name Tn p2] [] pos) (xIsi f ta) :=
  PE.weak (pe_callB call_isi hg hm boot_isinstance (pa_cons ha (pa_cons (pe_bltn (v := .ty T) hgT hmT hvT rfl hnT hdT) pa_nil h2) h1) (by decide) (by decide) h1 hpl) fun σ H Q h => by
    obtain ⟨G, F, ρ, k, R, ht, hp⟩ := h
    refine ⟨G, F, ρ, _, R, ht, fun x v F1 H1 hx n1 r1 => ?_⟩
    obtain ⟨hd, hk2⟩ := hx
    exact ⟨v, .ty T, _, _, f x.dat, rfl, .ty T, tyX_of (r1.full n1.fh) hd, kit_ty (hk x.dat), hp _ _ F1 H1 hk2 n1 (.bl _)⟩
end

def rngD (a b : Int) : List D := (List.range (b - a).toNat).map fun i => D.int (a + (i : Nat))
def Sm2 (a b : Int) : Prop := -100000 ≤ a ∧ a ≤ 100000 ∧ -100000 ≤ b ∧ b ≤ 100000
theorem Sm2.ok {a b : Int} (h : Sm2 a b) : RgOk a b := by
  obtain ⟨h1, h2, h3, h4⟩ := h
  exact ⟨by omega, by omega, by omega, by omega, by omega⟩
theorem rng_rp {K : PySem.W.Frag} {w : World} {F : Hp} (a b : Int) : RpA K w F (rgV a b) (rngD a b) := by
  unfold rgV rngD
  generalize (b - a).toNat = n
  have all : ∀ l : List Nat, RpA K w F (l.map fun i => V.int (a + (i : Nat))) (l.map fun i => D.int (a + (i : Nat))) := by
    intro l
    induction l with
    | nil => exact .nil
    | cons i l ih => exact .cons (.int _) ih
  exact all _
def fRng1 (ta : TX) : PEnv → (List D → Prop) → Prop := fun ρ k => ta ρ fun x => match x with
  | .int n => Sm2 0 n ∧ k (rngD 0 n)
  | _ => False
def fRng2 (ta tb : TX) : PEnv → (List D → Prop) → Prop := fun ρ k => ta ρ fun x => tb ρ fun y => match x, y with
  | .int m, .int n => Sm2 m n ∧ k (rngD m n)
  | _, _ => False
section
variable {X : Cx} {a b : Expr} {ta tb : TX} {p p2 pos pos2 : Pos}
theorem fin_lst {K : PySem.W.Frag} {w : World} {F H F1 H1 : Hp} {k : List D → Prop} {Q : VK} (hp : ∀ xs vs p F' H', k xs → Nw F H F' H' → H p = none → F' p = none → H' p = some (.lst vs) → RpA K w F' vs xs → Q (.ref p) H') (n : Nw F H F1 H1) {xs : List D} {vs : List V} (hk : k xs) (r : RpA K w F1 vs xs)
    {q : Addr} (hq : H1 q = none) : Q (.ref q) (upd H1 q (.lst vs)) := hp xs vs q F1 _ hk (n.trans (.own n.fh hq)) (none_of_same n.hh hq) (none_of_same n.fh hq) upd_same r
theorem pf_listRg1 (hc : X.calm = true) (hg : Gl X "list") (hm : X.mg "list" = none) (hg2 : Gl X "range") (hm2 : X.mg "range" = none) (ha : PX X a ta)
    (na : starEach [.Call (.Name "range" p2) [a] [] pos2] X.env = (false, eval (.Call (.Name "range" p2) [a] [] pos2) X.env) :: starEach [] X.env := by rfl) (nb : starEach [a] X.env = (false, eval a X.env) :: starEach [] X.env := by rfl) :
    PF X (.Call (.Name "list" p) [.Call (.Name "range" p2) [a] [] pos2] [] pos) (fRng1 ta) := PE.weak (pe_listRg hc hg hm (prg_1 hg2 hm2 ha nb) na) fun σ H Q h => by
  obtain ⟨G, F, ρ, k, R, ht, hp⟩ := h
  refine ⟨G, F, ρ, _, R, ht, fun x v F1 H1 hx n1 r1 => ?_⟩
  cases x <;> try exact hx.elim
  case int n =>
    cases r1
    exact ⟨n, rfl, hx.1.ok, fun q hq => fin_lst hp n1 hx.2 (rng_rp 0 n) hq⟩
theorem pf_listRg2 (hc : X.calm = true) (hg : Gl X "list") (hm : X.mg "list" = none) (hg2 : Gl X "range") (hm2 : X.mg "range" = none) (ha : PX X a ta) (hb : PX X b tb)
    (na : starEach [.Call (.Name "range" p2) [a, b] [] pos2] X.env = (false, eval (.Call (.Name "range" p2) [a, b] [] pos2) X.env) :: starEach [] X.env := by rfl) (nb : starEach [a, b] X.env = (false, eval a X.env) :: starEach [b] X.env := by rfl)
    (nc : starEach [b] X.env = (false, eval b X.env) :: starEach [] X.env := by rfl) (hpb : (backTo pos2 (starEach [b] X.env)).any (·.1) = false := by rfl) :
    PF X (.Call (.Name "list" p) [.Call (.Name "range" p2) [a, b] [] pos2] [] pos) (fRng2 ta tb) := PE.weak (pe_listRg hc hg hm (prg_2 hg2 hm2 ha hb nb nc hpb) na) fun σ H Q h => by
  obtain ⟨G, F, ρ, k, R, ht, hp⟩ := h
  refine ⟨G, F, ρ, _, R, ht, fun x v F1 H1 hx n1 r1 => ⟨G, F1, ρ, _, R.nw n1, hx, fun y u F2 H2 hy n2 r2 => ?_⟩⟩
  cases x <;> cases y <;> try exact hy.elim
  case int.int m n =>
    cases r1; cases r2
    exact ⟨m, n, rfl, rfl, hy.1.ok, fun q hq => fin_lst hp (n1.trans n2) hy.2 (rng_rp m n) hq⟩
end

def xIdx (tr : TXR) (te : TX) : TX := fun ρ k => tr ρ fun x => match x.dat with
  | .lst xs => te ρ fun y => (D.lst xs).cln = true ∧ y.cln = true ∧ y ∈ xs ∧ k (.int (xs.idxOf y : Nat))
  | _ => False
theorem idxOf_get : ∀ {xs : List D} {y : D}, y ∈ xs → xs[xs.idxOf y]? = some y ∧ ∀ (m : Nat) (z : D), m < xs.idxOf y → xs[m]? = some z → z ≠ y
  | [], _, h => by cases h
  | x :: xs, y, h => by
    by_cases e : x = y
    · subst e
      refine ⟨by simp [List.idxOf_cons], fun m z hm _ => ?_⟩
      simp [List.idxOf_cons] at hm
    · have h' : y ∈ xs := by
        rcases List.mem_cons.mp h with q | q
        · exact absurd q.symm e
        · exact q
      obtain ⟨h1, h2⟩ := idxOf_get h'
      have ix : (x :: xs).idxOf y = xs.idxOf y + 1 := by
        rw [List.idxOf_cons]
        have : (x == y) = false := beq_eq_false_iff_ne.mpr e
        rw [this]
        rfl
      rw [ix]
      refine ⟨by simpa using h1, fun m z hm hz => ?_⟩
      cases m with
      | zero =>
        simp at hz
        rw [← hz]
        exact e
      | succ m => exact h2 m z (by omega) (by simpa using hz)
theorem lstCase {x : D} {p : List D → Prop} (h : match x with | .lst xs => p xs | _ => False) : ∃ xs, x = .lst xs ∧ p xs := by
  cases x with
  | lst xs => exact ⟨xs, rfl, h⟩
  | _ => exact h.elim
section
variable {X : Cx} {a b : Expr} {tr : TXR} {te : TX} {apos pos : Pos}
theorem px_idx (hu : X.A.units + 65 < cLine) (ha : PR X a tr) (hb : PX X b te)
    (hbase : attributeBase a "index" X.env (eval a X.env) = eval a X.env := by rfl)
    (hfew : ((backTo pos (starEach [b] X.env)).all (fun x => !x.1) && (backToKw pos (keywordEach [] X.env)).all (fun x => x.1.isSome) && decide ([b].length + ([] : List Keyword).length + (if ([] : List Keyword).isEmpty then 0 else 1) < 30)) = true := by rfl)
    (hline : (apos.endLine == pos.line) = true := by rfl) (hs : starEach [b] X.env = (false, eval b X.env) :: starEach [] X.env := by rfl) (hplain : (backTo pos (starEach [] X.env)).any (·.1) = false := by rfl) :
    PX X (.Call (.Attribute a "index" apos) [b] [] pos) (xIdx tr te) :=
  PE.weak (pe_bm PySem.F.plainAttrs_list PySem.F.slot_list_index PySem.F.type_list_index (mt_indexD hu) ha (pa_cons hb pa_nil hs) hbase hfew hline hs hplain) fun σ H Q h => by
    obtain ⟨G, F, ρ, k, R, ht, hp⟩ := h
    refine ⟨G, F, ρ, _, R, ht, fun x v F1 H1 hx n1 r1 => ?_⟩
    obtain ⟨xs, ex, hx⟩ := lstCase (p := fun xs => te ρ fun y => (D.lst xs).cln = true ∧ y.cln = true ∧ y ∈ xs ∧ k (.int (xs.idxOf y : Nat))) hx
    obtain ⟨p, vs, rfl, h2, h3⟩ := r1.lst ex n1.fh
    refine ⟨.inl ⟨rfl, vs, SqL.of h2⟩, G, F1, ρ, _, R.nw n1, hx, fun y u F2 H2 hy n2 r2 => ?_⟩
    obtain ⟨c1, c2, hm, hk⟩ := hy
    obtain ⟨g1, g2⟩ := idxOf_get hm
    have c1' : xs.all (D.cl 19) = true := by simpa [D.cl] using c1
    have full : Rp X.K X.w H2 (.ref p) (.lst xs) := .lst (n2.hh _ _ h2) (RpA.same (n2.ff.trans n2.fh) h3)
    have dd : Dp X.K H2 (.ref p) (.list (D.pys xs)) := by simpa [D.py] using full.toDp (Same.refl _) c1
    have sh : SeqAt.shaped (.list (D.pys xs)) = true := by simpa [D.py] using D.shaped (d := .lst xs) c1
    refine ⟨p, u, y.py, D.pys xs, xs.idxOf y, y.py, rfl, rfl, dd, r2.toDp n2.fh c2, sh, D.shaped c2, ?_, ?_, ?_, hp _ _ F2 H2 hk (n1.trans n2) (.int _)⟩
    · rw [D.pys_map, List.getElem?_map, g1]
      rfl
    · rw [D.eqv_py 20 20 y y c2 c2]
      simp
    · intro m z hm2 hz
      rw [D.pys_map, List.getElem?_map] at hz
      cases q : xs[m]? with
      | none => rw [q] at hz; cases hz
      | some z' =>
        rw [q] at hz
        cases hz
        have cz : D.cl 19 z' = true := List.all_eq_true.mp c1' z' (List.mem_of_getElem? q)
        rw [D.eqv_py 19 20 z' y cz c2]
        exact decide_eq_false (g2 m z' hm2 q)
end
end PL
end

section
set_option Elab.async false
set_option linter.all false
set_option maxRecDepth 100000
set_option maxHeartbeats 2000000
set_option autoImplicit false
namespace PL
open PySem PySem.Spec PyProof.Rows L2

structure EndsP where
  nx : PEnv → Prop
  rt : D → Prop
  bk : PEnv → Prop := fun _ => False
  ct : PEnv → Prop := fun _ => False
abbrev TXS := EndsP → PEnv → Prop
structure EndOk (K : PySem.W.Frag) (w : World) (G F : Hp) (D' : EndsP) (D : Ends) : Prop where
  nx : ∀ F' ρ' σ' H', D'.nx ρ' → Gr G F F' → Rep K w G F' ρ' σ' H' → D.nx σ' H'
  bk : ∀ F' ρ' σ' H', D'.bk ρ' → Gr G F F' → Rep K w G F' ρ' σ' H' → D.bk σ' H'
  ct : ∀ F' ρ' σ' H', D'.ct ρ' → Gr G F F' → Rep K w G F' ρ' σ' H' → D.ct σ' H'
  rt : ∀ x v F' H', D'.rt x → Gr G F F' → Same G H' → Same F' H' → Rp K w F' v x → D.rt v H'
def liftS (K : PySem.W.Frag) (w : World) (t : TXS) : TS := fun D σ H => ∃ G F ρ D', Rep K w G F ρ σ H ∧ t D' ρ ∧ EndOk K w G F D' D
abbrev PXS (X : Cx) (st : Stmt) (t : TXS) : Prop := PS X st (liftS X.K X.w t)
abbrev PXSs (X : Cx) (st : List Stmt) (t : TXS) : Prop := PSs X st (liftS X.K X.w t)
section
variable {K : PySem.W.Frag} {w : World} {G F F' : Hp} {D' : EndsP} {D : Ends}
theorem EndOk.gr (e : EndOk K w G F D' D) (g : Gr G F F') : EndOk K w G F' D' D :=
  ⟨fun F2 ρ σ H a b c => e.nx F2 ρ σ H a (g.trans b) c, fun F2 ρ σ H a b c => e.bk F2 ρ σ H a (g.trans b) c, fun F2 ρ σ H a b c => e.ct F2 ρ σ H a (g.trans b) c, fun x v F2 H a b c d r => e.rt x v F2 H a (g.trans b) c d r⟩
theorem PS.weak {X : Cx} {st : Stmt} {t t' : TS} (h : PS X st t) (i : ∀ D σ H, t' D σ H → t D σ H) : PS X st t' := ⟨fun pins s σ H D I q => h.run pins s σ H D I (i D σ H q)⟩
theorem PSs.weak {X : Cx} {st : List Stmt} {t t' : TS} (h : PSs X st t) (i : ∀ D σ H, t' D σ H → t D σ H) : PSs X st t' := ⟨fun pins s σ H D I q => h.run pins s σ H D I (i D σ H q)⟩
end

def sNext : TXS := fun D ρ => D.nx ρ
def sSeq (t u : TXS) : TXS := fun D ρ => t { D with nx := u D } ρ
def sBreak : TXS := fun D ρ => D.bk ρ
def sCont : TXS := fun D ρ => D.ct ρ
def sRet (t : TX) : TXS := fun D ρ => t ρ D.rt
/-- return of a name, perhaps a list of one's own -/
def sRetV (i : Nat) : TXS := fun D ρ => xP ρ[i]? fun pv => D.rt pv.dat
def sIf (c : TXT) (t u : TXS) : TXS := fun D ρ => c ρ fun b => if b = true then t D ρ else u D ρ
def sSet (i : Nat) (t : TX) : TXS := fun D ρ => t ρ fun x => D.nx (ρ.set i (some (.d x)))
def sSetF (i : Nat) (t : PEnv → (List D → Prop) → Prop) : TXS := fun D ρ => t ρ fun xs => D.nx (ρ.set i (some (.own xs)))
/-- x = y: a list of one's own goes over -/
def sMove (i j : Nat) : TXS := fun D ρ => xP ρ[j]? fun pv => match pv with
  | .d x => D.nx (ρ.set i (some (.d x)))
  | pv => D.nx ((ρ.set j none).set i (some pv))
def sDrop (t : TX) : TXS := fun D ρ => t ρ fun _ => D.nx ρ
section
variable {K : PySem.W.Frag} {w : World}
theorem liftS_seq {t u : TXS} (D : Ends) (σ : L2.St) (H : Hp) (h : liftS K w (sSeq t u) D σ H) : tSeq (liftS K w t) (liftS K w u) D σ H := by
  obtain ⟨G, F, ρ, D', R, ht, e⟩ := h
  exact ⟨G, F, ρ, _, R, ht, fun F' ρ' σ' H' a b c => ⟨G, F', ρ', D', c, a, e.gr b⟩, e.bk, e.ct, e.rt⟩
theorem liftS_ret {t : TX} (D : Ends) (σ : L2.St) (H : Hp) (h : liftS K w (sRet t) D σ H) : tRet (liftE K w t) D σ H := by
  obtain ⟨G, F, ρ, D', R, ht, e⟩ := h
  exact ⟨G, F, ρ, _, R, ht, fun x v F' H' hx n r => e.rt x v F' H' hx (n.gr R.gh) (R.gh.trans n.hh) n.fh r⟩
theorem liftS_retV {i : Nat} (D : Ends) (σ : L2.St) (H : Hp) (h : liftS K w (sRetV i) D σ H) : tRet (tVar i) D σ H := by
  obtain ⟨G, F, ρ, D', R, ht, e⟩ := h
  obtain ⟨pv, e1, hk⟩ := xP_some ht
  cases q : pv.owns with
  | false =>
    cases pv with
    | d x =>
      obtain ⟨v, e2, s⟩ := R.at_ i _ e1
      exact ⟨v, e2, e.rt x v F H hk .refl R.gh R.fh s⟩
    | own _ => cases q
    | odic _ _ => cases q
  | true =>
    obtain ⟨F', g, R'⟩ := R.fz e1 q
    have hl : i < ρ.length := (List.getElem?_eq_some_iff.mp e1).1
    obtain ⟨v, e2, s⟩ := R'.at_ i (.d pv.dat) (by rw [List.getElem?_set]; simp [hl])
    exact ⟨v, e2, e.rt pv.dat v F' H hk g R'.gh R'.fh s⟩
theorem liftS_if {c : TXT} {t u : TXS} (D : Ends) (σ : L2.St) (H : Hp) (h : liftS K w (sIf c t u) D σ H) : tIfS (liftT K w c) (liftS K w t) (liftS K w u) D σ H := by
  obtain ⟨G, F, ρ, D', R, ht, e⟩ := h
  refine ⟨G, F, ρ, _, R, ht, fun b F' H' hb n => ?_⟩
  cases b with
  | true => exact ⟨G, F', ρ, D', R.nw n, hb, e.gr (n.gr R.gh)⟩
  | false => exact ⟨G, F', ρ, D', R.nw n, hb, e.gr (n.gr R.gh)⟩
theorem liftS_set {i : Nat} {t : TX} (D : Ends) (σ : L2.St) (H : Hp) (h : liftS K w (sSet i t) D σ H) : tAsg (liftE K w t) (gName i) D σ H := by
  obtain ⟨G, F, ρ, D', R, ht, e⟩ := h
  exact ⟨G, F, ρ, _, R, ht, fun x v F' H' hx n r => e.nx F' _ _ H' hx (n.gr R.gh) ((R.nw n).setD i r)⟩
theorem liftS_setF {i : Nat} {t : PEnv → (List PL.D → Prop) → Prop} (D : Ends) (σ : L2.St) (H : Hp) (h : liftS K w (sSetF i t) D σ H) : tAsg (liftF K w t) (gName i) D σ H := by
  obtain ⟨G, F, ρ, D', R, ht, e⟩ := h
  refine ⟨G, F, ρ, _, R, ht, fun xs vs p F' H' hx n hp fp hv r => e.nx F' _ _ H' hx (n.gr R.gh) ((R.nw n).setO i ⟨p, vs, rfl, none_of_same R.gh hp, fp, hv, r⟩ (R.fresh hp))⟩
theorem liftS_move {i j : Nat} (D : Ends) (σ : L2.St) (H : Hp) (h : liftS K w (sMove i j) D σ H) : tAsg (tVar j) (gName i) D σ H := by
  obtain ⟨G, F, ρ, D', R, ht, e⟩ := h
  obtain ⟨pv, e1, hk⟩ := xP_some ht
  obtain ⟨v, e2, s⟩ := R.at_ j _ e1
  refine ⟨v, e2, ?_⟩
  have own : pv.owns = true → D'.nx ((ρ.set j none).set i (some pv)) → D.nx (σ.set i (some v)) H := fun o hk => by
    obtain ⟨p, rfl, _⟩ := s.there o
    refine e.nx F _ _ H hk .refl ((R.drop j).setO i s fun a q ea oa ha => ?_)
    rcases set_get ea with ⟨_, e3, _⟩ | ⟨ne, e3⟩
    · cases e3
    · exact ne (R.sep a j q pv _ e3 e1 oa o ha e2)
  cases pv with
  | d x => exact e.nx F _ _ H hk .refl (R.setD i s)
  | own xs => exact own rfl hk
  | odic a b => exact own rfl hk
theorem liftS_drop {t : TX} (D : Ends) (σ : L2.St) (H : Hp) (h : liftS K w (sDrop t) D σ H) : tDrop (liftE K w t) D σ H := by
  obtain ⟨G, F, ρ, D', R, ht, e⟩ := h
  exact ⟨G, F, ρ, _, R, ht, fun x v F' H' hx n r => e.nx F' _ _ H' hx (n.gr R.gh) (R.nw n)⟩
end
section
variable {X : Cx} {st : Stmt} {rest a b : List Stmt} {t u : TXS} {e : Expr} {te : TX} {pos pos' : Pos} {c : TXT}
theorem pxs_nil : PXSs X [] sNext := PSs.weak pss_nil fun D σ H ⟨G, F, ρ, D', R, ht, e⟩ => e.nx F ρ σ H ht .refl R
theorem pxs_cons (h1 : PXS X st t) (h2 : PXSs X rest u) : PXSs X (st :: rest) (sSeq t u) := PSs.weak (pss_cons h1 h2) liftS_seq
theorem pxs_one (h1 : PXS X st t) : PXSs X [st] t := pss_one h1
theorem ps_never' {t : TS} (h : ∀ D σ H, ¬ t D σ H) : PS X st t := ⟨fun pins s σ H D I q => (h D σ H q).elim⟩
/-- a way that can not be -/
theorem pxs_never : PXS X st (fun _ _ => False) := ps_never' fun D σ H ⟨_, _, _, _, _, h, _⟩ => h
theorem pxs_pass : PXS X (.Pass pos) sNext := PS.weak ps_pass fun D σ H ⟨G, F, ρ, D', R, ht, e⟩ => e.nx F ρ σ H ht .refl R
theorem pxs_break : PXS X (.Break pos) sBreak := PS.weak ps_break fun D σ H ⟨G, F, ρ, D', R, ht, e⟩ => e.bk F ρ σ H ht .refl R
theorem pxs_cont : PXS X (.Continue pos) sCont := PS.weak ps_continue fun D σ H ⟨G, F, ρ, D', R, ht, e⟩ => e.ct F ρ σ H ht .refl R
theorem pxs_ret (h : PX X e te) : PXS X (.Return (some e) pos) (sRet te) := PS.weak (ps_ret h) liftS_ret
theorem pxs_retV (i : Nat) {x : Str} (hN : X.N[i]? = some x := by rfl) (hv : Vis X.env.scope x := by first | exact Or.inl rfl | exact Or.inr (Or.inl rfl) | exact Or.inr (Or.inr rfl)) (hd : (x == ("__debug__" : Str)) = false := by decide)
    (hcd : (x == ("__classdict__" : Str)) = false := by decide) : PXS X (.Return (some (.Name x pos')) pos) (sRetV i) := PS.weak (ps_ret (pe_var hN hv hd hcd)) liftS_retV
theorem pxs_if {ce : Expr} (hc : PXT X ce c) (ha : PXSs X a t) (hb : PXSs X b u) : PXS X (.If ce a b pos) (sIf c t u) := PS.weak (ps_if hc ha hb) liftS_if
theorem pxs_set {i : Nat} {x : Str} (hN : X.N.Nodup) (hi : X.N[i]? = some x) (hx : Loc X.env.scope x) (he : PX X e te) (hs : swapsWith e (some (.Name x pos')) pos.line X.env = pure false := by rfl)
    (hf : X.fn x = true ∨ X.env.scope.names.lookup x = some .local := by first | exact .inl rfl | exact .inr rfl | assumption) : PXS X (.Assign [.Name x pos'] e pos) (sSet i te) := PS.weak (ps_set hN hi hx he hs hf) liftS_set
theorem pxs_setF {i : Nat} {x : Str} {tf : PEnv → (List D → Prop) → Prop} (hN : X.N.Nodup) (hi : X.N[i]? = some x) (hx : Loc X.env.scope x) (he : PF X e tf) (hs : swapsWith e (some (.Name x pos')) pos.line X.env = pure false := by rfl)
    (hf : X.fn x = true ∨ X.env.scope.names.lookup x = some .local := by first | exact .inl rfl | exact .inr rfl | assumption) : PXS X (.Assign [.Name x pos'] e pos) (sSetF i tf) := PS.weak (ps_set hN hi hx he hs hf) liftS_setF
theorem pxs_move {i j : Nat} {x y : Str} {p2 : Pos} (hN : X.N.Nodup) (hi : X.N[i]? = some x) (hx : Loc X.env.scope x) (hj : X.N[j]? = some y := by rfl)
    (hv : Vis X.env.scope y := by first | exact Or.inl rfl | exact Or.inr (Or.inl rfl) | exact Or.inr (Or.inr rfl)) (hd : (y == ("__debug__" : Str)) = false := by decide) (hcd : (y == ("__classdict__" : Str)) = false := by decide)
    (hs : swapsWith (.Name y p2) (some (.Name x pos')) pos.line X.env = pure false := by rfl)
    (hf : X.fn x = true ∨ X.env.scope.names.lookup x = some .local := by first | exact .inl rfl | exact .inr rfl | assumption) : PXS X (.Assign [.Name x pos'] (.Name y p2) pos) (sMove i j) := PS.weak (ps_set hN hi hx (pe_var hj hv hd hcd) hs hf) liftS_move
theorem pxs_drop (h : PX X e te) (hs : swapsWith e none pos.line X.env = pure false := by rfl) : PXS X (.Expr e pos) (sDrop te) := PS.weak (ps_expr h hs) liftS_drop
end

abbrev TXG := D → PEnv → (PEnv → Prop) → Prop
def liftG (K : PySem.W.Frag) (w : World) (g : TXG) : TG := fun v σ H Q => ∃ G F ρ x k, Rep K w G F ρ σ H ∧ Rp K w F v x ∧ g x ρ k ∧ ∀ F' ρ' σ' H', k ρ' → Gr G F F' → Rep K w G F' ρ' σ' H' → Q σ' H'
abbrev PXG (X : Cx) (tg : Expr) (g : TXG) : Prop := PG X tg (liftG X.K X.w g)
def gN (i : Nat) : TXG := fun x ρ k => k (ρ.set i (some (.d x)))
def gsSet : List Nat → List D → PEnv → PEnv
  | i :: is, x :: xs, ρ => gsSet is xs (ρ.set i (some (.d x)))
  | _, _, ρ => ρ
def gT (is : List Nat) : TXG := fun x ρ k => match x with
  | .tup xs => xs.length = is.length ∧ k (gsSet is xs ρ)
  | _ => False
def gNames : List Nat → TGs
  | [] => gNil
  | i :: is => gCons (gName i) (gNames is)
section
variable {X : Cx} {tg : Expr} {pos : Pos}
theorem PG.weak {g g' : TG} (h : PG X tg g) (i : ∀ v σ H Q, g' v σ H Q → g v σ H Q) : PG X tg g' := ⟨fun pins s σ H v u Q I r q => h.run pins s σ H v u Q I r (i v σ H Q q)⟩
theorem pxg_name {i : Nat} {x : Str} (hN : X.N.Nodup) (hi : X.N[i]? = some x) (hx : Loc X.env.scope x) (hf : X.fn x = true ∨ X.env.scope.names.lookup x = some .local := by first | exact .inl rfl | exact .inr rfl | assumption) : PXG X (.Name x pos) (gN i) :=
  PG.weak (pg_name hN hi hx hf) fun v σ H Q ⟨G, F, ρ, x, k, R, r, hg, hk⟩ => hk F _ _ H hg .refl (R.setD i r)
theorem names_set {K : PySem.W.Frag} {w : World} : ∀ {is : List Nat} {xs : List D} {vs : List V} {G F : Hp} {ρ : PEnv} {σ : L2.St} {H : Hp} {Q : L2.St → Hp → Prop}, xs.length = is.length → RpA K w F vs xs → Rep K w G F ρ σ H →
    (∀ σ', Rep K w G F (gsSet is xs ρ) σ' H → Q σ' H) → gNames is vs σ H Q
  | [], [], _, _, _, _, _, _, _, _, r, R, hq => by
    cases r
    exact ⟨rfl, hq _ R⟩
  | i :: is, x :: xs, _, _, _, _, _, _, _, hl, r, R, hq => by
    cases r with
    | cons a b => exact ⟨_, _, rfl, names_set (by simpa using hl) b (R.setD i a) hq⟩
theorem pxg_tup {is : List Nat} {es : List Expr} {kk : Nat} (hc : X.calm = true) (h : PGs X es (gNames is)) (hn : (assignEach es X.env).length = is.length := by rfl) (hst : (assignEach es X.env).findIdx? (·.1) = none := by rfl) : PXG X (.Tuple es kk pos) (gT is) :=
  PG.weak (pg_tup (n := is.length) hc h hn hst) fun v σ H Q ⟨G, F, ρ, x, k, R, r, hg, hk⟩ => by
    cases x <;> try exact hg.elim
    case tup xs =>
      obtain ⟨hl, hg⟩ := hg
      cases r with
      | tup h1 h2 => exact ⟨_, _, rfl, Same.sqT R.fh h1, by rw [h2.length, hl], names_set hl h2 R fun σ' R' => hk F _ σ' H hg .refl R'⟩
end
/-- target = e -/
def sAsg (t : TX) (g : TXG) : TXS := fun D ρ => t ρ fun x => g x ρ D.nx
section
variable {X : Cx} {tg e : Expr} {te : TX} {g : TXG} {pos : Pos}
theorem pxs_asg (he : PX X e te) (hg : PXG X tg g) (hs : swapsWithSole [tg] e pos.line X.env = pure false := by rfl) (hw : swappedStores [tg] e X.env = pure none := by rfl)
    (h1 : (assignEach [tg] X.env).map (·.2) = [assign tg X.env] := by rfl) : PXS X (.Assign [tg] e pos) (sAsg te g) := PS.weak (ps_asg he hg hs hw h1) fun D σ H ⟨G, F, ρ, D', R, ht, e⟩ =>
  ⟨G, F, ρ, _, R, ht, fun x v F' H' hx n r => ⟨G, F', ρ, x, _, R.nw n, r, hx, fun F2 ρ2 σ2 H2 a b c => e.nx F2 ρ2 σ2 H2 a ((n.gr R.gh).trans b) c⟩⟩
end
def sAug (i : Nat) (f : Int → Int → Int) (t : TX) : TXS := fun D ρ => xD ρ[i]? fun x => t ρ fun y => match x, y with
  | .int a, .int b => D.nx (ρ.set i (some (.d (.int (f a b)))))
  | _, _ => False
section
variable {X : Cx} {e : Expr} {te : TX} {pos pos' : Pos}
theorem pxs_aug {i : Nat} {x : Str} {op : Operator} {f : Int → Int → Int} (hN : X.N.Nodup) (hi : X.N[i]? = some x) (hx : Loc X.env.scope x) (he : PX X e te) (ho : PIp X op (ipI f))
    (hf : X.fn x = true ∨ X.env.scope.names.lookup x = some .local := by first | exact .inl rfl | exact .inr rfl | assumption) : PXS X (.AugAssign (.Name x pos') op e pos) (sAug i f te) :=
  PS.weak (ps_aug hN hi hx he ho hf) fun D σ H ⟨G, F, ρ, D', R, ht, e⟩ => by
    obtain ⟨x, e1, hk⟩ := xD_some ht
    obtain ⟨v, e2, s⟩ := R.at_ i _ e1
    refine ⟨v, e2, G, F, ρ, _, R, hk, fun y u F' H' hy n r => ?_⟩
    cases x <;> cases y <;> try exact hy.elim
    case int.int a b =>
      cases s; cases r
      exact ⟨a, b, rfl, rfl, e.nx F' _ _ H' hy (n.gr R.gh) ((R.nw n).setD i (.int _))⟩
end
end PL
end

section
set_option Elab.async false
set_option linter.all false
set_option maxRecDepth 100000
set_option maxHeartbeats 2000000
set_option autoImplicit false
namespace PL
open PySem PySem.Spec PyProof.Rows L2

/-- the walk J gives the data xs, one after another, while what F holds may be read -/
structure WalkP (K : PySem.W.Frag) (w : World) (F F0 : Hp) (J : It) (xs : List D) : Prop where
  goes : ∀ i H, i < xs.length → Same F0 H → J.go i H
  stops : ∀ H, Same F0 H → J.stop xs.length H
  yields : ∀ i F1 H v H' x, Same F F1 → Same F1 H → Same F0 H → xs[i]? = some x → J.yld i H v H' → ∃ F', Nw F1 H F' H' ∧ Rp K w F' v x
abbrev TXI := PEnv → (List D → PEnv → Prop) → Prop
def liftI (K : PySem.W.Frag) (w : World) (t : TXI) : TI := fun σ H R => ∃ G F ρ k, Rep K w G F ρ σ H ∧ t ρ k ∧ ∀ xs ρ' F' H' J, k xs ρ' → Gr G F F' → Rep K w G F' ρ' σ H' → WalkP K w F' F' J xs → R J H'
abbrev PXI (X : Cx) (tg it : Expr) (t : TXI) : Prop := PI X tg it (liftI X.K X.w t)
section
variable {K : PySem.W.Frag} {w : World} {F F0 : Hp}
theorem walkP_list {a : Addr} {vs : List V} {xs : List D} (h : F0 a = some (.lst vs)) (r : RpA K w F vs xs) : WalkP K w F F0 (Itl K a) xs where
  goes := fun i H hi e => by
    have hv : i < vs.length := by rw [r.length]; exact hi
    exact ⟨vs, vs[i], SqL.of (e _ _ h), by simp [hv]⟩
  stops := fun H e => ⟨vs, SqL.of (e _ _ h), by rw [r.length]; exact Nat.le_refl _⟩
  yields := fun i F1 H v H' x e e1 e0 hx y => by
    obtain ⟨rfl, y⟩ := y
    obtain ⟨u, h1, h2⟩ := r.get hx
    have h3 := y vs (SqL.of (e0 _ _ h))
    rw [h1] at h3
    cases h3
    exact ⟨F1, .refl e1, Rp.same e h2⟩
theorem walkP_tup {a : Addr} {vs : List V} {xs : List D} (h : SqT K F0 a vs) (r : RpA K w F vs xs) : WalkP K w F F0 (Itt K a) xs where
  goes := fun i H hi e => by
    have hv : i < vs.length := by rw [r.length]; exact hi
    exact ⟨vs, vs[i], Same.sqT e h, by simp [hv]⟩
  stops := fun H e => ⟨vs, Same.sqT e h, by rw [r.length]; exact Nat.le_refl _⟩
  yields := fun i F1 H v H' x e e1 e0 hx y => by
    obtain ⟨rfl, y⟩ := y
    obtain ⟨u, h1, h2⟩ := r.get hx
    have h3 := y vs (Same.sqT e0 h)
    rw [h1] at h3
    cases h3
    exact ⟨F1, .refl e1, Rp.same e h2⟩
theorem rngD_get {a b : Int} {i : Nat} {x : D} (h : (rngD a b)[i]? = some x) : x = .int (a + (i : Nat)) := by
  unfold rngD at h
  rw [List.getElem?_map] at h
  cases e : (List.range (b - a).toNat)[i]? with
  | none => rw [e] at h; cases h
  | some j =>
    rw [e] at h
    obtain ⟨h1, h2⟩ := List.getElem?_eq_some_iff.mp e
    have : j = i := by simpa using h2.symm
    subst this
    cases h
    rfl
theorem rngD_len (a b : Int) : (rngD a b).length = (b - a).toNat := by unfold rngD; rw [List.length_map, List.length_range]
theorem walkP_rng (a b : Int) : WalkP K w F F0 (Itr a (b - a).toNat) (rngD a b) where
  goes := fun i H hi e => by rw [rngD_len] at hi; exact hi
  stops := fun H e => by rw [rngD_len]; exact Nat.le_refl _
  yields := fun i F1 H v H' x e e1 e0 hx y => by
    obtain ⟨rfl, rfl⟩ := y
    rw [rngD_get hx]
    exact ⟨F1, .refl e1, .int _⟩
/-- the signs of a text -/
def signs (z : Str) : List D := z.cps.toList.map fun c => D.str ⟨#[c]⟩
theorem walkP_str (z : Str) : WalkP K w F F0 (Its z) (signs z) where
  goes := fun i H hi e => by
    have : i < z.cps.size := by simpa [signs] using hi
    exact this
  stops := fun H e => by
    show z.cps.size ≤ (signs z).length
    simp [signs]
  yields := fun i F1 H v H' x e e1 e0 hx y => by
    obtain ⟨rfl, c, hc, rfl⟩ := y
    unfold signs at hx
    rw [List.getElem?_map, Array.getElem?_toList, hc] at hx
    cases hx
    exact ⟨F1, .refl e1, .str _⟩
/-- pairs -/
def zipD (xs ys : List D) : List D := (xs.zip ys).map fun p => D.tup [p.1, p.2]
theorem zipD_len (xs ys : List D) : (zipD xs ys).length = min xs.length ys.length := by simp [zipD]
theorem zipD_get {xs ys : List D} {i : Nat} {z : D} (h : (zipD xs ys)[i]? = some z) : ∃ x y, xs[i]? = some x ∧ ys[i]? = some y ∧ z = .tup [x, y] := by
  unfold zipD at h
  rw [List.getElem?_map] at h
  cases e : (xs.zip ys)[i]? with
  | none => rw [e] at h; cases h
  | some p =>
    rw [e] at h
    cases h
    obtain ⟨x, y⟩ := p
    rw [List.getElem?_zip_eq_some] at e
    exact ⟨x, y, e.1, e.2, rfl⟩
theorem walkP_zipT {a b : Addr} {vs us : List V} {xs ys : List D} (h : SqT K F0 a vs) (r : RpA K w F vs xs) (h' : SqT K F0 b us) (r' : RpA K w F us ys) : WalkP K w F F0 (RZ.ItzT K a b) (zipD xs ys) where
  goes := fun i H hi e => by
    rw [zipD_len] at hi
    have h1 : i < vs.length := by rw [r.length]; omega
    have h2 : i < us.length := by rw [r'.length]; omega
    exact ⟨vs, us, vs[i], us[i], Same.sqT e h, Same.sqT e h', by simp [h1], by simp [h2]⟩
  stops := fun H e => ⟨vs, us, Same.sqT e h, Same.sqT e h', by rw [zipD_len, r.length, r'.length]; omega⟩
  yields := fun i F1 H v H' x e e1 e0 hx y => by
    obtain ⟨T, p, q, rfl, hT, rfl, hp, hq⟩ := y
    obtain ⟨dx, dy, g1, g2, rfl⟩ := zipD_get hx
    obtain ⟨u1, e2, r1⟩ := r.get g1
    obtain ⟨u2, e3, r2⟩ := r'.get g2
    have h3 := hp vs (Same.sqT e0 h)
    have h4 := hq us (Same.sqT e0 h')
    rw [e2] at h3
    rw [e3] at h4
    cases h3
    cases h4
    have ff := same_new (o := HO.tup [p, q]) (none_of_same e1 hT)
    exact ⟨upd F1 T (.tup [p, q]), .new e1 hT, .tup (SqT.of upd_same) (.cons (Rp.same (e.trans ff) r1) (.cons (Rp.same (e.trans ff) r2) .nil))⟩
theorem walkP_zipL {a b : Addr} {vs us : List V} {xs ys : List D} (h : F0 a = some (.lst vs)) (r : RpA K w F vs xs) (h' : F0 b = some (.lst us)) (r' : RpA K w F us ys) : WalkP K w F F0 (Itz K a b) (zipD xs ys) where
  goes := fun i H hi e => by
    rw [zipD_len] at hi
    have h1 : i < vs.length := by rw [r.length]; omega
    have h2 : i < us.length := by rw [r'.length]; omega
    exact ⟨vs, us, vs[i], us[i], SqL.of (e _ _ h), SqL.of (e _ _ h'), by simp [h1], by simp [h2]⟩
  stops := fun H e => ⟨vs, us, SqL.of (e _ _ h), SqL.of (e _ _ h'), by rw [zipD_len, r.length, r'.length]; omega⟩
  yields := fun i F1 H v H' x e e1 e0 hx y => by
    obtain ⟨T, p, q, rfl, hT, rfl, hp, hq⟩ := y
    obtain ⟨dx, dy, g1, g2, rfl⟩ := zipD_get hx
    obtain ⟨u1, e2, r1⟩ := r.get g1
    obtain ⟨u2, e3, r2⟩ := r'.get g2
    have h3 := hp vs (SqL.of (e0 _ _ h))
    have h4 := hq us (SqL.of (e0 _ _ h'))
    rw [e2] at h3
    rw [e3] at h4
    cases h3
    cases h4
    have ff := same_new (o := HO.tup [p, q]) (none_of_same e1 hT)
    exact ⟨upd F1 T (.tup [p, q]), .new e1 hT, .tup (SqT.of upd_same) (.cons (Rp.same (e.trans ff) r1) (.cons (Rp.same (e.trans ff) r2) .nil))⟩
end

/-- a list or a tuple, as read -/
def iSeq (K : PySem.W.Frag) (tl : TE) : TI := fun σ H R => tl σ H fun x H1 => ∃ a, x = .ref a ∧ ((∃ xs, SqL K H1 a xs ∧ R (Itl K a) H1) ∨ ∃ xs, SqT K H1 a xs ∧ R (Itt K a) H1)
theorem pi_seq {X : Cx} {tg l : Expr} {tl : TE} (hl : PE X l tl) : PI X tg l (iSeq X.K tl) := by
  refine ⟨fun pins s σ H R I h => ?_⟩
  refine thn (hl.run pins s σ H _ I h) fun v s1 ⟨x, H1, I1, r1, a, e, q⟩ => ?_
  subst e
  cases r1
  rcases q with ⟨xs, hq, q⟩ | ⟨xs, hq, q⟩
  · obtain ⟨its, rv, p, hz⟩ := I1.list hq
    refine wpAny_pyIter_list p.isList ⟨s1.heap.objs.size, [s1.heap.objs.size], _, _, H1, rfl, I1.kept (t' := s1.toks) fun b o e => Heap.get?_push_of_some _ e, turn_list a _, ⟨_, Heap.get?_push_size _ rfl, rfl, rfl⟩, fun b hb => ?_, q⟩
    obtain rfl : b = s1.heap.objs.size := List.mem_singleton.mp hb
    exact I1.fpOk (Nat.le_refl _) (I1.hok.fresh (Nat.le_refl _))
  · obtain ⟨its, rv, p, hz⟩ := I1.tuple hq
    refine wpAny_pyIter_tuple (show s1.heap.IsTuple a its.toArray from p) ⟨s1.heap.objs.size, [s1.heap.objs.size], _, _, H1, rfl, I1.kept (t' := s1.toks) fun b o e => Heap.get?_push_of_some _ e, turn_tuple a _, ⟨_, Heap.get?_push_size _ rfl, rfl, rfl⟩, fun b hb => ?_, q⟩
    obtain rfl : b = s1.heap.objs.size := List.mem_singleton.mp hb
    exact I1.fpOk (Nat.le_refl _) (I1.hok.fresh (Nat.le_refl _))
def seqOf : D → Option (List D)
  | .lst xs => some xs
  | .tup xs => some xs
  | _ => none
/-- over an expression's list or tuple -/
def iX (t : TX) : TXI := fun ρ k => t ρ fun x => match seqOf x with | some xs => k xs ρ | none => False
/-- over a name's list or tuple; a list of one's own is from now on to be read alone -/
def iV (i : Nat) : TXI := fun ρ k => xP ρ[i]? fun pv => match pv with
  | .own xs => k xs (ρ.set i (some (.d (.lst xs))))
  | .d x => match seqOf x with | some xs => k xs ρ | none => False
  | _ => False
def iStrP (t : TX) : TXI := fun ρ k => t ρ fun x => match x with | .str z => k (signs z) ρ | _ => False
def iR1 (t : TX) : TXI := fun ρ k => t ρ fun x => match x with | .int n => Sm2 0 n ∧ k (rngD 0 n) ρ | _ => False
def iR2 (t u : TX) : TXI := fun ρ k => t ρ fun x => u ρ fun y => match x, y with | .int m, .int n => Sm2 m n ∧ k (rngD m n) ρ | _, _ => False
def iZip (t u : TX) : TXI := fun ρ k => t ρ fun x => u ρ fun y => match x, y with
  | .tup xs, .tup ys => k (zipD xs ys) ρ
  | .lst xs, .lst ys => k (zipD xs ys) ρ
  | _, _ => False
section
variable {K : PySem.W.Frag} {w : World}
theorem seq_walk {F H F0 : Hp} {v : V} {x : D} {xs : List D} (fh : Same F H) (f0 : Same F F0) (r : Rp K w F v x) (e : seqOf x = some xs) : ∃ a, v = .ref a ∧ ((∃ ys, SqL K H a ys ∧ WalkP K w F F0 (Itl K a) xs) ∨ ∃ ys, SqT K H a ys ∧ WalkP K w F F0 (Itt K a) xs) := by
  cases x <;> try (cases e; done)
  case lst ys =>
    cases e
    cases r with
    | lst h1 h2 => exact ⟨_, rfl, .inl ⟨_, SqL.of (fh _ _ h1), walkP_list (f0 _ _ h1) h2⟩⟩
  case tup ys =>
    cases e
    cases r with
    | tup h1 h2 => exact ⟨_, rfl, .inr ⟨_, Same.sqT fh h1, walkP_tup (Same.sqT f0 h1) h2⟩⟩
theorem liftI_X {t : TX} (σ : L2.St) (H : Hp) (R : It → Hp → Prop) (h : liftI K w (iX t) σ H R) : iSeq K (liftE K w t) σ H R := by
  obtain ⟨G, F, ρ, k, Re, ht, hp⟩ := h
  refine ⟨G, F, ρ, _, Re, ht, fun x v F' H' hx n r => ?_⟩
  cases e : seqOf x with
  | none => rw [e] at hx; exact hx.elim
  | some xs =>
    rw [e] at hx
    obtain ⟨a, rfl, q⟩ := seq_walk n.fh (Same.refl _) r e
    refine ⟨a, rfl, ?_⟩
    rcases q with ⟨ys, h1, h2⟩ | ⟨ys, h1, h2⟩
    · exact .inl ⟨ys, h1, hp xs ρ F' H' _ hx (n.gr Re.gh) (Re.nw n) h2⟩
    · exact .inr ⟨ys, h1, hp xs ρ F' H' _ hx (n.gr Re.gh) (Re.nw n) h2⟩
theorem liftI_V {i : Nat} (σ : L2.St) (H : Hp) (R : It → Hp → Prop) (h : liftI K w (iV i) σ H R) : iSeq K (tVar i) σ H R := by
  obtain ⟨G, F, ρ, k, Re, ht, hp⟩ := h
  obtain ⟨pv, e1, hk⟩ := xP_some ht
  obtain ⟨v, e2, s⟩ := Re.at_ i _ e1
  refine ⟨v, e2, ?_⟩
  cases pv with
  | odic _ _ => exact hk.elim
  | d x =>
    have hk' : match seqOf x with | some xs => k xs ρ | none => False := hk
    cases e : seqOf x with
    | none => rw [e] at hk'; exact hk'.elim
    | some xs =>
      rw [e] at hk'
      obtain ⟨a, rfl, q⟩ := seq_walk Re.fh (Same.refl _) s e
      refine ⟨a, rfl, ?_⟩
      rcases q with ⟨ys, h1, h2⟩ | ⟨ys, h1, h2⟩
      · exact .inl ⟨ys, h1, hp xs ρ F H _ hk' .refl Re h2⟩
      · exact .inr ⟨ys, h1, hp xs ρ F H _ hk' .refl Re h2⟩
  | own xs =>
    obtain ⟨F', g, R'⟩ := Re.fz e1 rfl
    have hl : i < ρ.length := (List.getElem?_eq_some_iff.mp e1).1
    obtain ⟨v', e3, s'⟩ := R'.at_ i (.d (.lst xs)) (by rw [List.getElem?_set]; simp [hl])
    rw [e2] at e3
    cases e3
    obtain ⟨a, rfl, q⟩ := seq_walk (xs := xs) R'.fh (Same.refl _) s' rfl
    refine ⟨a, rfl, ?_⟩
    rcases q with ⟨ys, h1, h2⟩ | ⟨ys, h1, h2⟩
    · exact .inl ⟨ys, h1, hp xs _ F' H _ hk g R' h2⟩
    · exact .inr ⟨ys, h1, hp xs _ F' H _ hk g R' h2⟩
theorem liftI_Str {t : TX} (σ : L2.St) (H : Hp) (R : It → Hp → Prop) (h : liftI K w (iStrP t) σ H R) : iStr (liftE K w t) σ H R := by
  obtain ⟨G, F, ρ, k, Re, ht, hp⟩ := h
  refine ⟨G, F, ρ, _, Re, ht, fun x v F' H' hx n r => ?_⟩
  cases x <;> try exact hx.elim
  case str z =>
    cases r
    exact ⟨z, rfl, hp _ ρ F' H' _ hx (n.gr Re.gh) (Re.nw n) (walkP_str z)⟩
theorem liftI_R1 {t : TX} (σ : L2.St) (H : Hp) (R : It → Hp → Prop) (h : liftI K w (iR1 t) σ H R) : iRng1 (tCons (liftE K w t) tNil) σ H R := by
  obtain ⟨G, F, ρ, k, Re, ht, hp⟩ := h
  refine ⟨G, F, ρ, _, Re, ht, fun x v F' H' hx n r => ?_⟩
  cases x <;> try exact hx.elim
  case int m =>
    cases r
    obtain ⟨⟨_, _, h3, h4⟩, hk⟩ := hx
    refine ⟨m, rfl, by omega, by omega, hp _ ρ F' H' _ hk (n.gr Re.gh) (Re.nw n) ?_⟩
    have := walkP_rng (K := K) (w := w) (F := F') (F0 := F') 0 m
    rw [Int.sub_zero] at this
    exact this
theorem liftI_R2 {t u : TX} (σ : L2.St) (H : Hp) (R : It → Hp → Prop) (h : liftI K w (iR2 t u) σ H R) : iRng2 (tCons (liftE K w t) (tCons (liftE K w u) tNil)) σ H R := by
  obtain ⟨G, F, ρ, k, Re, ht, hp⟩ := h
  refine ⟨G, F, ρ, _, Re, ht, fun x v F1 H1 hx n1 r1 => ⟨G, F1, ρ, _, Re.nw n1, hx, fun y v2 F2 H2 hy n2 r2 => ?_⟩⟩
  cases x <;> cases y <;> try exact hy.elim
  case int.int m o =>
    cases r1; cases r2
    obtain ⟨⟨h1, h2, h3, h4⟩, hk⟩ := hy
    exact ⟨m, o, rfl, by omega, hp _ ρ F2 H2 _ hk ((n1.trans n2).gr Re.gh) ((Re.nw n1).nw n2) (walkP_rng m o)⟩
theorem liftI_Zip {t u : TX} (σ : L2.St) (H : Hp) (R : It → Hp → Prop) (h : liftI K w (iZip t u) σ H R) : RZ.iZipA K (tCons (liftE K w t) (tCons (liftE K w u) tNil)) σ H R := by
  obtain ⟨G, F, ρ, k, Re, ht, hp⟩ := h
  refine ⟨G, F, ρ, _, Re, ht, fun x v F1 H1 hx n1 r1 => ⟨G, F1, ρ, _, Re.nw n1, hx, fun y v2 F2 H2 hy n2 r2 => ?_⟩⟩
  cases x <;> cases y <;> try exact hy.elim
  case tup.tup xs ys =>
    cases r1 with
    | tup a1 b1 =>
      cases r2 with
      | tup a2 b2 =>
        exact ⟨_, _, _, _, rfl, .inr ⟨Same.sqT (n2.ff.trans n2.fh) a1, Same.sqT n2.fh a2, hp _ ρ F2 H2 _ hy ((n1.trans n2).gr Re.gh) ((Re.nw n1).nw n2) (walkP_zipT (Same.sqT n2.ff a1) (RpA.same n2.ff b1) a2 b2)⟩⟩
  case lst.lst xs ys =>
    cases r1 with
    | lst a1 b1 =>
      cases r2 with
      | lst a2 b2 =>
        exact ⟨_, _, _, _, rfl, .inl ⟨SqL.of (n2.fh _ _ (n2.ff _ _ a1)), SqL.of (n2.fh _ _ a2), hp _ ρ F2 H2 _ hy ((n1.trans n2).gr Re.gh) ((Re.nw n1).nw n2) (walkP_zipL (n2.ff _ _ a1) (RpA.same n2.ff b1) a2 b2)⟩⟩
end
section
variable {X : Cx} {tg e e2 : Expr} {t u : TX} {p pos : Pos}
theorem PI.weak {t t' : TI} (h : PI X tg e t) (i : ∀ σ H R, t' σ H R → t σ H R) : PI X tg e t' := ⟨fun pins s σ H R I q => h.run pins s σ H R I (i σ H R q)⟩
theorem pxi_x (h : PX X e t) : PXI X tg e (iX t) := PI.weak (pi_seq h) liftI_X
theorem pxi_v (i : Nat) {x : Str} (hN : X.N[i]? = some x := by rfl) (hv : Vis X.env.scope x := by first | exact Or.inl rfl | exact Or.inr (Or.inl rfl) | exact Or.inr (Or.inr rfl)) (hd : (x == ("__debug__" : Str)) = false := by decide)
    (hcd : (x == ("__classdict__" : Str)) = false := by decide) : PXI X tg (.Name x pos) (iV i) := PI.weak (pi_seq (pe_var hN hv hd hcd)) liftI_V
theorem pxi_str (h : PX X e t) : PXI X tg e (iStrP t) := PI.weak (pi_str h) liftI_Str
theorem pxi_r1 (hg : Gl X "range") (hm : X.mg "range" = none) (h : PX X e t) (hs : starEach [e] X.env = [(false, eval e X.env)] := by rfl) : PXI X tg (.Call (.Name "range" p) [e] [] pos) (iR1 t) :=
  PI.weak (pi_range1 hg hm (pa_cons h pa_nil hs) hs) liftI_R1
theorem pxi_r2 (hg : Gl X "range") (hm : X.mg "range" = none) (h : PX X e t) (h2 : PX X e2 u) (hs : starEach [e, e2] X.env = [(false, eval e X.env), (false, eval e2 X.env)] := by rfl) (hs2 : starEach [e2] X.env = [(false, eval e2 X.env)] := by rfl) :
    PXI X tg (.Call (.Name "range" p) [e, e2] [] pos) (iR2 t u) := PI.weak (pi_range2 hg hm (pa_cons h (pa_cons h2 pa_nil hs2) (by rw [hs, hs2])) hs hs2) liftI_R2
theorem pxi_zip {elts : List Expr} {kk : Nat} {tpos : Pos} (hg : Gl X "zip") (hm : X.mg "zip" = none) (h : PX X e t) (h2 : PX X e2 u) (hs : starEach [e, e2] X.env = (false, eval e X.env) :: starEach [e2] X.env := by rfl) (hs2 : starEach [e2] X.env = (false, eval e2 X.env) :: starEach [] X.env := by rfl)
    (hpl : (backTo pos (starEach [e2] X.env)).any (·.1) = false := by rfl) : PXI X (.Tuple elts kk tpos) (.Call (.Name "zip" p) [e, e2] [] pos) (iZip t u) := PI.weak (RZ.pi_zipA hg hm (pa_cons h (pa_cons h2 pa_nil hs2) hs) hs hpl) liftI_Zip
end

def loopP (g : TXG) (tb : TXS) (D : EndsP) : List PL.D → PEnv → Prop
  | [], ρ => D.nx ρ
  | x :: xs, ρ => g x ρ fun ρ' => tb { D with nx := loopP g tb D xs, ct := loopP g tb D xs, bk := D.nx } ρ'
def sFor (ti : TXI) (g : TXG) (tb : TXS) : TXS := fun D ρ => ti ρ fun xs ρ' => loopP g tb D xs ρ'
section
variable {K : PySem.W.Frag} {w : World}
theorem liftS_for {ti : TXI} {g : TXG} {tb : TXS} (D : Ends) (σ : L2.St) (H : Hp) (h : liftS K w (sFor ti g tb) D σ H) : tFor (liftI K w ti) (liftG K w g) (liftS K w tb) D σ H := by
  obtain ⟨G, F, ρ, D', R, ht, e⟩ := h
  refine ⟨G, F, ρ, _, R, ht, fun xs ρ1 F1 H1 J hx g1 R1 wk => ?_⟩
  refine ⟨fun i m σ2 H2 => m = xs.length - i ∧ i ≤ xs.length ∧ ∃ F2 ρ2, Gr G F1 F2 ∧ Rep K w G F2 ρ2 σ2 H2 ∧ loopP g tb D' (xs.drop i) ρ2, ⟨xs.length, by simp, Nat.zero_le _, F1, ρ1, .refl, R1, by simpa using hx⟩, ?_⟩
  rintro i m σ2 H2 ⟨rfl, hi, F2, ρ2, g2, R2, hl⟩
  by_cases hlt : i < xs.length
  · refine .inr ⟨wk.goes i H2 hlt (g2.ff.trans R2.fh), fun σ3 H3 => ∃ F3 ρ3, Gr G F1 F3 ∧ Rep K w G F3 ρ3 σ3 H3 ∧ loopP g tb D' (xs.drop (i + 1)) ρ3, fun σ3 H3 ⟨F3, ρ3, a, b, c⟩ => ⟨xs.length - (i + 1), by omega, rfl, hlt, F3, ρ3, a, b, c⟩, fun v H3 hy => ?_⟩
    obtain ⟨x, hxi⟩ : ∃ x, xs[i]? = some x := ⟨xs[i], by simp [hlt]⟩
    obtain ⟨F3, n3, r3⟩ := wk.yields i F2 H2 v H3 x g2.ff R2.fh (g2.ff.trans R2.fh) hxi hy
    have ed : xs.drop i = x :: xs.drop (i + 1) := by
      rw [List.drop_eq_getElem_cons hlt]
      congr 1
      rw [List.getElem?_eq_getElem hlt] at hxi
      exact Option.some.inj hxi
    rw [ed] at hl
    have g3 : Gr G F1 F3 := g2.trans (n3.gr R2.gh)
    refine ⟨G, F3, ρ2, x, _, R2.nw n3, r3, hl, fun F4 ρ4 σ4 H4 hk g4 R4 => ?_⟩
    refine ⟨G, F4, ρ4, _, R4, hk, ?_⟩
    have g14 := g3.trans g4
    exact ⟨fun F5 ρ5 σ5 H5 a b c => ⟨F5, ρ5, g14.trans b, c, a⟩, fun F5 ρ5 σ5 H5 a b c => e.nx F5 ρ5 σ5 H5 a ((g1.trans g14).trans b) c, fun F5 ρ5 σ5 H5 a b c => ⟨F5, ρ5, g14.trans b, c, a⟩,
      fun x v F5 H5 a b c d r => e.rt x v F5 H5 a ((g1.trans g14).trans b) c d r⟩
  · have e' : i = xs.length := by omega
    subst e'
    rw [List.drop_length] at hl
    exact .inl ⟨wk.stops H2 (g2.ff.trans R2.fh), e.nx F2 ρ2 σ2 H2 hl (g1.trans g2) R2⟩
end
theorem pxs_for {X : Cx} {tg it : Expr} {body : List Stmt} {ti : TXI} {g : TXG} {tb : TXS} {pos : Pos} (hp : PassesOwn (model X.prog X.w) X.A X.env X.xe) (hc : X.calm = true) (hi : PXI X tg it ti) (hg : PXG X tg g) (hb : PXSs X body tb)
    (hs : ∀ x, foldedSetIterable it X.env x = pure x := by intro _; rfl) : PXS X (.For tg it body [] pos) (sFor ti g tb) := PS.weak (ps_for hp hc hi hg hb hs) liftS_for

def whileP (c : TXT) (tb : TXS) (D : EndsP) : Nat → PEnv → Prop
  | 0, _ => False
  | n + 1, ρ => c ρ fun b => if b = true then tb { D with nx := whileP c tb D n, ct := whileP c tb D n, bk := D.nx } ρ else D.nx ρ
/-- some number of turns suffices -/
def sWhile (c : TXT) (tb : TXS) : TXS := fun D ρ => ∃ n, whileP c tb D n ρ
section
variable {K : PySem.W.Frag} {w : World}
theorem liftS_while {c : TXT} {tb : TXS} (D : Ends) (σ : L2.St) (H : Hp) (h : liftS K w (sWhile c tb) D σ H) : tWhile (liftT K w c) (liftS K w tb) D σ H := by
  obtain ⟨G, F, ρ, D', R, ⟨n, hn⟩, e⟩ := h
  refine ⟨fun m σ2 H2 => ∃ F2 ρ2, Gr G F F2 ∧ Rep K w G F2 ρ2 σ2 H2 ∧ whileP c tb D' m ρ2, ⟨n, F, ρ, .refl, R, hn⟩, ?_⟩
  rintro m σ2 H2 ⟨F2, ρ2, g2, R2, hm⟩
  cases m with
  | zero => exact hm.elim
  | succ m =>
    refine ⟨G, F2, ρ2, _, R2, hm, fun b F3 H3 hb n3 => ?_⟩
    have g3 := g2.trans (n3.gr R2.gh)
    cases b with
    | true =>
      refine ⟨fun σ4 H4 => ∃ F4 ρ4, Gr G F F4 ∧ Rep K w G F4 ρ4 σ4 H4 ∧ whileP c tb D' m ρ4, fun σ4 H4 q => ⟨m, Nat.lt_succ_self m, q⟩, G, F3, ρ2, _, R2.nw n3, hb, ?_⟩
      exact ⟨fun F5 ρ5 σ5 H5 a b c => ⟨F5, ρ5, g3.trans b, c, a⟩, fun F5 ρ5 σ5 H5 a b c => e.nx F5 ρ5 σ5 H5 a (g3.trans b) c, fun F5 ρ5 σ5 H5 a b c => ⟨F5, ρ5, g3.trans b, c, a⟩, fun x v F5 H5 a b c d r => e.rt x v F5 H5 a (g3.trans b) c d r⟩
    | false => exact e.nx F3 ρ2 σ2 H3 hb g3 (R2.nw n3)
end
theorem pxs_while {X : Cx} {c : Expr} {body : List Stmt} {tc : TXT} {tb : TXS} {pos : Pos} (hp : PassesOwn (model X.prog X.w) X.A X.env X.xe) (hc : PXT X c tc) (hb : PXSs X body tb) : PXS X (.While c body [] pos) (sWhile tc tb) :=
  PS.weak (ps_while hp hc hb) liftS_while
end PL
end

section
set_option Elab.async false
set_option linter.all false
set_option maxRecDepth 100000
set_option maxHeartbeats 4000000
set_option autoImplicit false
namespace PL
open PySem PySem.Spec PyProof.Rows L2

def ownOf (o : Option (Option PV)) (k : List D → Prop) : Prop := match o with
  | some (some (.own xs)) => k xs
  | _ => False
theorem ownOf_some {o : Option (Option PV)} {k : List D → Prop} (h : ownOf o k) : ∃ xs, o = some (some (.own xs)) ∧ k xs := by
  unfold ownOf at h
  split at h
  · exact ⟨_, rfl, h⟩
  · exact h.elim
def sApp (i : Nat) (t : TX) : TXS := fun D ρ => ownOf ρ[i]? fun xs => t ρ fun y => Sm (xs.length + 1) ∧ D.nx (ρ.set i (some (.own (xs ++ [y]))))
def sExt (i : Nat) (t : TX) : TXS := fun D ρ => ownOf ρ[i]? fun xs => t ρ fun y => match seqOf y with
  | some ys => Sm (xs.length + ys.length) ∧ D.nx (ρ.set i (some (.own (xs ++ ys))))
  | none => False
def popOf (xs : List D) (k : List D → D → Prop) : Prop := match xs.getLast? with
  | some y => k xs.dropLast y
  | none => False
def sPop (i : Nat) (g : TXG) : TXS := fun D ρ => ownOf ρ[i]? fun xs => popOf xs fun ys y => g y (ρ.set i (some (.own ys))) D.nx
def sPopD (i : Nat) : TXS := fun D ρ => ownOf ρ[i]? fun xs => popOf xs fun ys _ => D.nx (ρ.set i (some (.own ys)))
section
variable {K : PySem.W.Frag} {w : World}
theorem own_at {G F H : Hp} {ρ : PEnv} {σ : L2.St} (R : Rep K w G F ρ σ H) {i : Nat} {xs : List D} (e : ρ[i]? = some (some (.own xs))) : ∃ p vs, σ[i]? = some (some (.ref p)) ∧ G p = none ∧ F p = none ∧ H p = some (.lst vs) ∧ RpA K w F vs xs := by
  obtain ⟨v, e2, p, vs, rfl, h⟩ := R.at_ i _ e
  exact ⟨p, vs, e2, h⟩
theorem own_mut {G F H : Hp} {ρ : PEnv} {σ : L2.St} (R : Rep K w G F ρ σ H) {i : Nat} {xs ys : List D} {p : Addr} {us : List V} (e : ρ[i]? = some (some (.own xs))) (es : σ[i]? = some (some (.ref p))) (hg : G p = none) (hf : F p = none) (r : RpA K w F us ys) :
    Rep K w G F (ρ.set i (some (.own ys))) σ (upd H p (.lst us)) := R.mut (pv' := .own ys) e rfl es hg hf ⟨p, us, rfl, hg, hf, upd_same, r⟩
theorem liftS_app {i : Nat} {t : TX} (D : Ends) (σ : L2.St) (H : Hp) (h : liftS K w (sApp i t) D σ H) : tDrop (tBM K "list" rAppend (tVar i) (tCons (liftE K w t) tNil)) D σ H := by
  obtain ⟨G, F, ρ, D', R, ht, e⟩ := h
  obtain ⟨xs, e1, hk⟩ := ownOf_some ht
  obtain ⟨p, vs, e2, hg, hf, hp, hr⟩ := own_at R e1
  refine ⟨_, e2, .inl ⟨rfl, vs, SqL.of hp⟩, G, F, ρ, _, R, hk, fun y v F1 H1 hy n r => ?_⟩
  have hp1 := n.hh _ _ hp
  have hf1 := n.nw _ _ hp trivial hf
  refine ⟨p, vs, v, rfl, rfl, hp1, by have := hy.1.line; rw [hr.length]; omega, ?_⟩
  exact e.nx F1 _ _ _ hy.2 (n.gr R.gh) (own_mut (R.nw n) e1 e2 hg hf1 ((RpA.same n.ff hr).append (.one r)))
theorem popOf_some {xs : List D} {k : List D → D → Prop} (h : popOf xs k) : ∃ y, xs.getLast? = some y ∧ k xs.dropLast y := by
  unfold popOf at h
  split at h
  · exact ⟨_, by assumption, h⟩
  · exact h.elim
theorem last_rp {F : Hp} {vs : List V} {xs : List D} {y : D} (r : RpA K w F vs xs) (h : xs.getLast? = some y) : ∃ v, vs[vs.length - 1]? = some v ∧ Rp K w F v y := by
  rw [List.getLast?_eq_getElem?, ← r.length] at h
  exact r.get h
theorem liftS_pop {i : Nat} {g : TXG} (D : Ends) (σ : L2.St) (H : Hp) (h : liftS K w (sPop i g) D σ H) : tAsg (tBM0 K "list" rPop (tVar i)) (liftG K w g) D σ H := by
  obtain ⟨G, F, ρ, D', R, ht, e⟩ := h
  obtain ⟨xs, e1, hk⟩ := ownOf_some ht
  obtain ⟨y, e3, hk⟩ := popOf_some hk
  obtain ⟨p, vs, e2, hg, hf, hp, hr⟩ := own_at R e1
  obtain ⟨v, e4, r⟩ := last_rp hr e3
  refine ⟨_, e2, .inl ⟨rfl, vs, SqL.of hp⟩, p, vs, v, rfl, rfl, hp, e4, ?_⟩
  exact ⟨G, F, _, y, _, own_mut R e1 e2 hg hf hr.dropLast, r, hk, fun F2 ρ2 σ2 H2 a b c => e.nx F2 ρ2 σ2 H2 a b c⟩
theorem liftS_popD {i : Nat} (D : Ends) (σ : L2.St) (H : Hp) (h : liftS K w (sPopD i) D σ H) : tDrop (tBM0 K "list" rPop (tVar i)) D σ H := by
  obtain ⟨G, F, ρ, D', R, ht, e⟩ := h
  obtain ⟨xs, e1, hk⟩ := ownOf_some ht
  obtain ⟨y, e3, hk⟩ := popOf_some hk
  obtain ⟨p, vs, e2, hg, hf, hp, hr⟩ := own_at R e1
  obtain ⟨v, e4, r⟩ := last_rp hr e3
  refine ⟨_, e2, .inl ⟨rfl, vs, SqL.of hp⟩, p, vs, v, rfl, rfl, hp, e4, ?_⟩
  exact e.nx F _ _ _ hk .refl (own_mut R e1 e2 hg hf hr.dropLast)
end
/-- xs.extend(t), t a tuple -/
def rExtT (K : PySem.W.Frag) : V → List V → Hp → VK → Prop := fun x vs H Q => ∃ l b xs zs, x = .ref l ∧ vs = [.ref b] ∧ H l = some (.lst xs) ∧ SqT K H b zs ∧ xs.length + zs.length ≤ sizeLine ∧ Q .non (upd H l (.lst (xs ++ zs)))
theorem meets_extT (l : Addr) (items : Array Value) (n : Nat) (b : Addr) (items2 : Array Value) (n2 : Nat) (dd : Option Addr) (sl : Array (Option Value)) (h0 : ¬(!items.isEmpty && Builtin.List.listTooLong (items.size + items2.size)) = true) (h1 : items.size ≤ sizeLine) (h2 : (items ++ items2).size ≤ sizeLine + 1) :
    Meets (Builtin.«list.extend» ⟨[.ref l, .ref b], []⟩) (fun _ R s => s.heap.get? l = some { cls := .type "list", dict := none, data := .seq items n, slots := #[] } ∧ s.heap.get? b = some { cls := .type "tuple", dict := dd, data := .seq items2 n2, slots := sl } ∧
      R (.ok (.ret Value.none)) { s with heap := s.heap.update l (Obj.mapSeq fun x => x ++ items2), toks := s.toks }) := .of_wp fun prog w A R s h => by
  obtain ⟨hp, g, d, tk, os⟩ := s
  obtain ⟨hl, hb, h⟩ := h
  have f1 := AutoSeq1.idx_int
  have f2 := AutoSeq1.sub_tuple_tuple
  have f3 := AutoSeq1.sub_list_list
  have f4 := AutoSeq1.sub_tuple_list
  have f5 := AutoSeq1.sub_list_tuple
  wp_walk using (wpAny_updateSeq hl rfl (hz := h1) (_hz' := h2)), wpAny_loadPart' hl, wpAny_loadPart' hb
  exact ⟨_, rfl, h⟩
section
variable {X : Cx}
theorem mt_extT : MtM X "list.extend" (rExtT X.K) := by
  intro pins s σ H x vs v us Q I rx rv h
  obtain ⟨l, b, xs, zs, rfl, rfl, hH, hB, hz, q⟩ := h
  cases rx
  obtain ⟨u, rfl, ru⟩ := rv.one
  cases ru
  obtain ⟨z, its, n, r, hl, e⟩ := I.lstM hH
  obtain ⟨its2, r2, ⟨⟨oc, od, dt, sl⟩, ho, hc, m, hd⟩, hz2⟩ := I.tuple hB
  simp only at hc hd
  subst hc hd
  have hl2 := r2.length
  have hsz : its.toArray.size + its2.toArray.size ≤ sizeLine := by rw [List.size_toArray, List.size_toArray]; omega
  have hlong : ¬ (!its.toArray.isEmpty && Builtin.List.listTooLong (its.toArray.size + its2.toArray.size)) = true := by
    rw [notLongL hsz, Bool.and_false]
    decide
  refine call_meets F.slot_list_extend ⟨_, e, rfl⟩ F.entry_list_extend (F.args_list_extend_2 _ _)
    (meets_extT l its.toArray n b its2.toArray m od sl hlong (by rw [List.size_toArray]; omega) (by rw [Array.size_append]; omega)) ⟨e, ho, .non, _, I.lset (its' := its ++ its2) hH e (by simp) (r.append r2) ?_, rfl, q⟩
  rw [List.length_append]
  omega
/-- either -/
def rExtA (K : PySem.W.Frag) : V → List V → Hp → VK → Prop := fun x vs H Q => rExtend x vs H Q ∨ rExtT K x vs H Q
theorem mt_extA : MtR X "list.extend" (rExtA X.K) := MtR.or mt_extend mt_extT
end
section
variable {K : PySem.W.Frag} {w : World}
theorem liftS_ext {i : Nat} {t : TX} (D : Ends) (σ : L2.St) (H : Hp) (h : liftS K w (sExt i t) D σ H) : tDrop (tBM K "list" (rExtA K) (tVar i) (tCons (liftE K w t) tNil)) D σ H := by
  obtain ⟨G, F, ρ, D', R, ht, e⟩ := h
  obtain ⟨xs, e1, hk⟩ := ownOf_some ht
  obtain ⟨p, vs, e2, hg, hf, hp, hr⟩ := own_at R e1
  refine ⟨_, e2, .inl ⟨rfl, vs, SqL.of hp⟩, G, F, ρ, _, R, hk, fun y v F1 H1 hy n r => ?_⟩
  have hp1 := n.hh _ _ hp
  have hf1 := n.nw _ _ hp trivial hf
  cases y <;> try exact hy.elim
  case lst ys =>
    cases r with
    | lst a1 b1 =>
      exact .inl ⟨p, _, vs, _, rfl, rfl, hp1, n.fh _ _ a1, by have := hy.1.line; rw [hr.length, b1.length]; omega, e.nx F1 _ _ _ hy.2 (n.gr R.gh) (own_mut (R.nw n) e1 e2 hg hf1 ((RpA.same n.ff hr).append b1))⟩
  case tup ys =>
    cases r with
    | tup a1 b1 =>
      exact .inr ⟨p, _, vs, _, rfl, rfl, hp1, Same.sqT n.fh a1, by have := hy.1.line; rw [hr.length, b1.length]; omega, e.nx F1 _ _ _ hy.2 (n.gr R.gh) (own_mut (R.nw n) e1 e2 hg hf1 ((RpA.same n.ff hr).append b1))⟩
end
section
variable {X : Cx} {e tg : Expr} {t : TX} {g : TXG} {apos cpos pos npos : Pos} {x : Str} {i : Nat}
theorem pxs_app (i : Nat) (h : PX X e t) (hN : X.N[i]? = some x := by rfl) (hv : Vis X.env.scope x := by first | exact Or.inl rfl | exact Or.inr (Or.inl rfl) | exact Or.inr (Or.inr rfl)) (hd : (x == ("__debug__" : Str)) = false := by decide) (hcd : (x == ("__classdict__" : Str)) = false := by decide)
    (hbase : attributeBase (.Name x npos) "append" X.env (eval (.Name x npos) X.env) = eval (.Name x npos) X.env := by rfl)
    (hfew : ((backTo cpos (starEach [e] X.env)).all (fun x => !x.1) && (backToKw cpos (keywordEach [] X.env)).all (fun x => x.1.isSome) && decide ([e].length + ([] : List Keyword).length + (if ([] : List Keyword).isEmpty then 0 else 1) < 30)) = true := by rfl)
    (hline : (apos.endLine == cpos.line) = true := by rfl) (hs : starEach [e] X.env = (false, eval e X.env) :: starEach [] X.env := by rfl) (hplain : (backTo cpos (starEach [] X.env)).any (·.1) = false := by rfl)
    (hsw : swapsWith (.Call (.Attribute (.Name x npos) "append" apos) [e] [] cpos) none pos.line X.env = pure false := by rfl) :
    PXS X (.Expr (.Call (.Attribute (.Name x npos) "append" apos) [e] [] cpos) pos) (sApp i t) :=
  PS.weak (ps_expr (pe_bm PySem.F.plainAttrs_list PySem.F.slot_list_append PySem.F.type_list_append mt_append (pe_var hN hv hd hcd) (pa_cons h pa_nil hs) hbase hfew hline hs hplain) hsw) liftS_app
theorem pxs_ext (i : Nat) (h : PX X e t) (hN : X.N[i]? = some x := by rfl) (hv : Vis X.env.scope x := by first | exact Or.inl rfl | exact Or.inr (Or.inl rfl) | exact Or.inr (Or.inr rfl)) (hd : (x == ("__debug__" : Str)) = false := by decide) (hcd : (x == ("__classdict__" : Str)) = false := by decide)
    (hbase : attributeBase (.Name x npos) "extend" X.env (eval (.Name x npos) X.env) = eval (.Name x npos) X.env := by rfl)
    (hfew : ((backTo cpos (starEach [e] X.env)).all (fun x => !x.1) && (backToKw cpos (keywordEach [] X.env)).all (fun x => x.1.isSome) && decide ([e].length + ([] : List Keyword).length + (if ([] : List Keyword).isEmpty then 0 else 1) < 30)) = true := by rfl)
    (hline : (apos.endLine == cpos.line) = true := by rfl) (hs : starEach [e] X.env = (false, eval e X.env) :: starEach [] X.env := by rfl) (hplain : (backTo cpos (starEach [] X.env)).any (·.1) = false := by rfl)
    (hsw : swapsWith (.Call (.Attribute (.Name x npos) "extend" apos) [e] [] cpos) none pos.line X.env = pure false := by rfl) :
    PXS X (.Expr (.Call (.Attribute (.Name x npos) "extend" apos) [e] [] cpos) pos) (sExt i t) :=
  PS.weak (ps_expr (pe_bm PySem.F.plainAttrs_list PySem.F.slot_list_extend PySem.F.type_list_extend mt_extA (pe_var hN hv hd hcd) (pa_cons h pa_nil hs) hbase hfew hline hs hplain) hsw) liftS_ext
theorem pxs_pop (i : Nat) (hg : PXG X tg g) (hN : X.N[i]? = some x := by rfl) (hv : Vis X.env.scope x := by first | exact Or.inl rfl | exact Or.inr (Or.inl rfl) | exact Or.inr (Or.inr rfl)) (hd : (x == ("__debug__" : Str)) = false := by decide) (hcd : (x == ("__classdict__" : Str)) = false := by decide)
    (hbase : attributeBase (.Name x npos) "pop" X.env (eval (.Name x npos) X.env) = eval (.Name x npos) X.env := by rfl) (hline : (apos.endLine == cpos.line) = true := by rfl)
    (hs : swapsWithSole [tg] (.Call (.Attribute (.Name x npos) "pop" apos) [] [] cpos) pos.line X.env = pure false := by rfl) (hw : swappedStores [tg] (.Call (.Attribute (.Name x npos) "pop" apos) [] [] cpos) X.env = pure none := by rfl) (h1 : (assignEach [tg] X.env).map (·.2) = [assign tg X.env] := by rfl) :
    PXS X (.Assign [tg] (.Call (.Attribute (.Name x npos) "pop" apos) [] [] cpos) pos) (sPop i g) :=
  PS.weak (ps_asg (pe_bm0 PySem.F.plainAttrs_list PySem.F.slot_list_pop PySem.F.type_list_pop mt_pop (pe_var hN hv hd hcd) hbase hline) hg hs hw h1) liftS_pop
theorem pxs_popD (i : Nat) (hN : X.N[i]? = some x := by rfl) (hv : Vis X.env.scope x := by first | exact Or.inl rfl | exact Or.inr (Or.inl rfl) | exact Or.inr (Or.inr rfl)) (hd : (x == ("__debug__" : Str)) = false := by decide) (hcd : (x == ("__classdict__" : Str)) = false := by decide)
    (hbase : attributeBase (.Name x npos) "pop" X.env (eval (.Name x npos) X.env) = eval (.Name x npos) X.env := by rfl) (hline : (apos.endLine == cpos.line) = true := by rfl)
    (hsw : swapsWith (.Call (.Attribute (.Name x npos) "pop" apos) [] [] cpos) none pos.line X.env = pure false := by rfl) :
    PXS X (.Expr (.Call (.Attribute (.Name x npos) "pop" apos) [] [] cpos) pos) (sPopD i) :=
  PS.weak (ps_expr (pe_bm0 PySem.F.plainAttrs_list PySem.F.slot_list_pop PySem.F.type_list_pop mt_pop (pe_var hN hv hd hcd) hbase hline) hsw) liftS_popD
end
end PL
end

section
set_option Elab.async false
set_option linter.all false
set_option maxRecDepth 100000
set_option maxHeartbeats 4000000
set_option autoImplicit false
namespace PL
open PySem PySem.Spec PyProof.Rows L2

def sNewD (i : Nat) : TXS := fun D ρ => D.nx (ρ.set i (some (.odic [] [])))
def odicOf (o : Option (Option PV)) (k : List D → List D → Prop) : Prop := match o with
  | some (some (.odic ks vs)) => k ks vs
  | _ => False
theorem odicOf_some {o : Option (Option PV)} {k : List D → List D → Prop} (h : odicOf o k) : ∃ ks vs, o = some (some (.odic ks vs)) ∧ k ks vs := by
  unfold odicOf at h
  split at h
  · exact ⟨_, _, rfl, h⟩
  · exact h.elim
/-- d[k] = e: the value, then d, then the key; the key is not in d yet -/
def sPut (i : Nat) (tk tv : TX) : TXS := fun Z ρ => tv ρ fun v => odicOf ρ[i]? fun ks vs => tk ρ fun k => D.kok 8 k = true ∧ (isTupD k = true) ∧ k ∉ ks ∧ Sm (ks.length + 1) ∧ Z.nx (ρ.set i (some (.odic (ks ++ [k]) (vs ++ [v]))))
def tNewD (w : World) : TE := fun _ H Q => ∀ p, H p = none → Q (.ref p) (upd H p (DicO w p []))
/-- d[y] = v with a new key of nested tuples -/
def tPutN (K : PySem.W.Frag) (w : World) (td ty tv : TE) : TS := fun Z σ H => tv σ H fun v H1 => td σ H1 fun x H2 => ty σ H2 fun y H3 => ∃ F p xs ks k, x = .ref p ∧ Same F H3 ∧ H3 p = some (DicO w p xs) ∧ RpA K w F (xs.map fun q => V.ref q.2.1) ks ∧ KeysOk xs ks ∧
  Rp K w F y k ∧ D.kok 8 k = true ∧ isTupD k = true ∧ k ∉ ks ∧ Sm (xs.length + 1) ∧ ∀ a, y = .ref a → Z.nx σ (upd H3 p (DicO w p (xs ++ [(k.key, a, v)])))
theorem dicO_mk {P : Program} {w : World} {H : Hp} {h : Heap} {p : Addr} {xs : List (NestedKey × Addr × V)} (q : ∃ o es ep, h.get? p = some o ∧ o.ExactDict ∧ o.data = .dict es ep ∧ Paired (entV w) xs es.toList ∧ (xs.map (·.1)).Nodup ∧ (p == sysModules) = false) : ObjOk P w H h p (DicO w p xs) := by
  have ⟨o, _, _, ho, _⟩ := q
  refine ⟨q, ⟨o, ho⟩, fun h1 h2 ⟨o, es, ep, a, b⟩ k => ⟨o, es, ep, k o a, b⟩⟩
section
variable {X : Cx} {pos : Pos}
theorem pe_newD : PE X (.Dict [] [] pos) (tNewD X.w) := ⟨fun pins s σ H Q I h => by
  refine wpAny_Dict_empty ⟨.ref s.heap.objs.size, _, I.laid (a := s.heap.objs.size) (o := DicO X.w s.heap.objs.size []) (t' := s.toks) (fun _ _ q => Heap.get?_push_of_some _ q) (Nat.le_refl _) (dicO_mk ⟨_, #[], _, Heap.get?_push_size _ rfl, ⟨rfl, rfl, rfl⟩, rfl, .nil, by simp, ?_⟩), rfl, h _ (I.hok.fresh (Nat.le_refl _))⟩
  have := I.big
  exact beq_eq_false_iff_ne.mpr (Nat.ne_of_gt this)⟩
theorem ps_putN {o i value : Expr} {td ty tv : TE} {pos' : Pos} (hu : X.A.units + 65 < cLine) (ho : PE X o td) (hi : PE X i ty) (hv : PE X value tv) (hs : swapsWith value (some (.Subscript o i pos')) pos.line X.env = pure false) :
    PS X (.Assign [.Subscript o i pos'] value pos) (tPutN X.K X.w td ty tv) := by
  refine ⟨fun pins s σ H Z I h => ?_⟩
  refine wpAny_Assign_Subscript (thn (hv.run pins s σ H _ I h) fun r s1 ⟨v, H1, I1, rv, q1⟩ => thn (ho.run pins s1 σ H1 _ I1 q1) fun u s2 ⟨x, H2, I2, rx, q2⟩ => thn (hi.run pins s2 σ H2 _ I2 q2) fun iv s3 ⟨y, H3, I3, ry, q3⟩ => ?_) hs
  obtain ⟨F, p, xs, ks, k, rfl, fh, hp, hr, ko, rk, kk, kt, kn, sm, q3⟩ := q3
  cases rx
  cases k <;> try (cases kt; done)
  case tup ds =>
    cases rk with
    | tup t1 t2 =>
      rename_i a zs
      have nk := nested_of I3 fh (.tup ds) 8 _ _ (.tup t1 t2) kk ry
      cases ry
      obtain ⟨nm, ys, hd, hE⟩ := dict_of I3 fh hp hr ko
      have hu8 : (nestedKind X.prog X.w).room X.A.in1 := by
        show X.A.units + 1 + 8 < cLine
        omega
      have keys : ys.map (·.1) = ks.map D.key := by rw [← ents_keys hE]; exact ko.1
      have none : atKey ys (D.tup ds).key = Option.none := by
        cases e : atKey ys (D.tup ds).key with
        | none => rfl
        | some z =>
          exfalso
          have : (D.tup ds).key ∈ ys.map (·.1) := by
            unfold atKey at e
            cases e2 : ys.find? fun x => decide (x.1 = (D.tup ds).key) with
            | none => rw [e2] at e; cases e
            | some z2 =>
              have h1 := List.mem_of_find?_eq_some e2
              have h2 := List.find?_some e2
              exact List.mem_map.mpr ⟨z2, h1, of_decide_eq_true h2⟩
          rw [keys] at this
          obtain ⟨k2, hk2, e3⟩ := List.mem_map.mp this
          have := D.key_inj 8 8 k2 (.tup ds) (ko.2 k2 hk2) kk e3
          subst this
          exact kn hk2
      have hz : ys.length ≤ sizeLine := by rw [← Paired.length hE]; have := sm.line; omega
      refine wpAny_setItem_heap (hsz := hz) hu8 ⟨nk, D.key_depth 8 _ kk⟩ hd fun h' dd' hsb => ?_
      obtain ⟨ob, es, ep, g1, g2, g3, g4, g5, g6⟩ := dd'
      rw [storedH_new none] at g4 g6
      refine ⟨σ, _, d_write I3 (by rw [hp]; exact True.intro) hsb ⟨ob, g1⟩ (dicO_mk ⟨ob, es, ep, g1, g2, g3, ?_, ?_, nm⟩), q3 a rfl⟩
      · rw [g4]
        exact ents_back X.prog X.w (Paired.snoc hE ⟨rfl, rfl, rv⟩)
      · have e : (xs ++ [((D.tup ds).key, a, v)]).map (·.1) = (ys ++ [((D.tup ds).key, a, r)]).map (·.1) := by
          rw [List.map_append, List.map_append, ents_keys hE]
          rfl
        rw [e]
        exact g6
end
section
variable {K : PySem.W.Frag} {w : World}
theorem liftS_newD {i : Nat} (Z : Ends) (σ : L2.St) (H : Hp) (h : liftS K w (sNewD i) Z σ H) : tAsg (tNewD w) (gName i) Z σ H := by
  obtain ⟨G, F, ρ, D', R, ht, e⟩ := h
  intro p hp
  have n : Nw F H F (upd H p (DicO w p [])) := .own R.fh hp
  exact e.nx F _ _ _ ht .refl ((R.nw n).setO i ⟨p, [], rfl, none_of_same R.gh hp, none_of_same R.fh hp, upd_same, .nil, .nil, rfl, fun k hk => by cases hk⟩ (R.fresh hp))
theorem liftS_put {i : Nat} {tk tv : TX} (Z : Ends) (σ : L2.St) (H : Hp) (h : liftS K w (sPut i tk tv) Z σ H) : tPutN K w (tVar i) (liftE K w tk) (liftE K w tv) Z σ H := by
  obtain ⟨G, F, ρ, D', R, ht, e⟩ := h
  refine ⟨G, F, ρ, _, R, ht, fun v u F1 H1 hv n1 r1 => ?_⟩
  obtain ⟨ks, vs, e1, hk⟩ := odicOf_some hv
  obtain ⟨z, e2, p, xs, rfl, hg, hf, hp, hr, hr2, ko⟩ := (R.nw n1).at_ i _ e1
  refine ⟨.ref p, e2, G, F1, ρ, _, R.nw n1, hk, fun k y F2 H2 hk n2 r2 => ?_⟩
  obtain ⟨kk, kt, kn, sm, hk⟩ := hk
  have hp2 := n2.hh _ _ hp
  have hf2 := n2.nw _ _ hp trivial hf
  refine ⟨F2, p, xs, ks, k, rfl, n2.fh, hp2, RpA.same n2.ff hr, ko, r2, kk, kt, kn, by rw [show xs.length = ks.length by rw [← hr.length, List.length_map]]; exact sm, fun a ea => ?_⟩
  subst ea
  refine e.nx F2 _ _ _ hk ((n1.trans n2).gr R.gh) (Rep.mut (pv' := .odic (ks ++ [k]) (vs ++ [v])) ((R.nw n1).nw n2) e1 rfl e2 hg hf2 ⟨p, _, rfl, hg, hf2, upd_same, ?_, ?_, ?_, ?_⟩)
  · rw [List.map_append]
    exact (RpA.same n2.ff hr).append (.one r2)
  · rw [List.map_append]
    exact (RpA.same n2.ff hr2).append (.one (Rp.same n2.ff r1))
  · rw [List.map_append, List.map_append, ko.1]
    rfl
  · intro q hq
    rcases List.mem_append.mp hq with hq | hq
    · exact ko.2 q hq
    · rw [List.mem_singleton.mp hq]
      exact kk
end
section
variable {X : Cx} {i : Nat} {x : Str} {pos pos' dpos npos : Pos}
theorem pxs_newD (hN : X.N.Nodup) (hi : X.N[i]? = some x) (hx : Loc X.env.scope x) (hs : swapsWith (.Dict [] [] dpos) (some (.Name x pos')) pos.line X.env = pure false := by rfl)
    (hf : X.fn x = true ∨ X.env.scope.names.lookup x = some .local := by first | exact .inl rfl | exact .inr rfl | assumption) : PXS X (.Assign [.Name x pos'] (.Dict [] [] dpos) pos) (sNewD i) := PS.weak (ps_set hN hi hx pe_newD hs hf) liftS_newD
theorem pxs_put (i : Nat) {k value : Expr} {tk tv : TX} (hu : X.A.units + 65 < cLine) (hk : PX X k tk) (hv : PX X value tv) (hN : X.N[i]? = some x := by rfl) (hvi : Vis X.env.scope x := by first | exact Or.inl rfl | exact Or.inr (Or.inl rfl) | exact Or.inr (Or.inr rfl))
    (hd : (x == ("__debug__" : Str)) = false := by decide) (hcd : (x == ("__classdict__" : Str)) = false := by decide) (hs : swapsWith value (some (.Subscript (.Name x npos) k pos')) pos.line X.env = pure false := by rfl) :
    PXS X (.Assign [.Subscript (.Name x npos) k pos'] value pos) (sPut i tk tv) := PS.weak (ps_putN hu (pe_var hN hvi hd hcd) hk hv hs) liftS_put
end
def sPar (i j : Nat) (ta tb : TX) : TXS := fun Z ρ => ta ρ fun x => tb ρ fun y => Z.nx ((ρ.set i (some (.d x))).set j (some (.d y)))
theorem pxs_par {X : Cx} {i j : Nat} {x y : Str} {a b : Expr} {ta tb : TX} {px py pt pos : Pos} {kt k2 pt2} (hc : X.calm = true) (hN : X.N.Nodup) (hi : X.N[i]? = some x) (hj : X.N[j]? = some y) (hij : i ≠ j)
    (hx : X.env.scope.names.lookup x = some .local) (hy : X.env.scope.names.lookup y = some .local) (ha : PX X a ta) (hb : PX X b tb) (h1 : starEach [a, b] X.env = (false, eval a X.env) :: starEach [b] X.env := by rfl) (h2 : starEach [b] X.env = (false, eval b X.env) :: starEach [] X.env := by rfl)
    (hw : swappedStores [.Tuple [.Name x px, .Name y py] kt pt] (.Tuple [a, b] k2 pt2) X.env = pure (some [x, y]) := by rfl)
    (hs : swapsWithSole [.Tuple [.Name x px, .Name y py] kt pt] (.Tuple [a, b] k2 pt2) pos.line X.env = pure false := by rfl) :
    PXS X (.Assign [.Tuple [.Name x px, .Name y py] kt pt] (.Tuple [a, b] k2 pt2) pos) (sPar i j ta tb) :=
  PS.weak (ps_par hc hN hi hj hij hx hy (pa_cons ha (pa_cons hb pa_nil h2) h1) hw hs) fun Z σ H ⟨G, F, ρ, D', R, ht, e⟩ =>
    ⟨G, F, ρ, _, R, ht, fun x v F1 H1 hx n1 r1 => ⟨G, F1, ρ, _, R.nw n1, hx, fun y u F2 H2 hy n2 r2 => ⟨v, u, rfl, e.nx F2 _ _ H2 hy ((n1.trans n2).gr R.gh) ((((R.nw n1).nw n2).setD i (Rp.same n2.ff r1)).setD j r2)⟩⟩⟩

/-- no list, no dict in it -/
def D.nl : Nat → D → Bool
  | _, .non => true
  | _, .bl _ => true
  | _, .int _ => true
  | _, .str _ => true
  | n + 1, .tup ds => ds.all (D.nl n)
  | _, _ => false
/-- a def's promise over plain data -/
abbrev FT := List D → (D → Prop) → Prop
def spP (K : PySem.W.Frag) (w : World) (n : Nat) (T : FT) : Sp := fun vs H Q _ => ∃ F ds k, Same F H ∧ RpA K w F vs ds ∧ ds.length = n ∧ T ds k ∧ Post K w F H k Q
/-- a call: a list of one's own may be lent where no list comes back -/
def xFn (n : Nat) (T : FT) (r : TXA) : TX := fun ρ k => r ρ fun pvs => pvs.length = n ∧ T (pvs.map PV.dat) fun x => (pvs.any PV.owns = true → D.nl 400 x = true) ∧ k x
section
variable {K : PySem.W.Frag} {w : World}
theorem RdA.full {F H : Hp} (fh : Same F H) : ∀ {vs : List V} {pvs : List PV}, RdA K w F H vs pvs → RpA K w H vs (pvs.map PV.dat)
  | _, _, .nil => .nil
  | _, _, .cons a b => .cons (a.full fh) (RdA.full fh b)
theorem RdA.data {F H : Hp} : ∀ {vs : List V} {pvs : List PV}, RdA K w F H vs pvs → pvs.any PV.owns = false → RpA K w F vs (pvs.map PV.dat)
  | _, _, .nil, _ => .nil
  | _, _, .cons (d := d) a b, h => by
    rw [List.any_cons, Bool.or_eq_false_iff] at h
    cases d with
    | d x => exact .cons a (RdA.data b h.2)
    | own _ => cases h.1
    | odic _ _ => cases h.1
/-- what holds no list does not lean on lists -/
theorem Rp.nl {F F' : Hp} (keep : ∀ b o, F b = some o → ¬ Mut (some o) → F' b = some o) : ∀ (n : Nat) {v : V} {d : D}, D.nl n d = true → Rp K w F v d → Rp K w F' v d := by
  intro n
  induction n with
  | zero =>
    intro v d h r
    cases r <;> first | (simp [D.nl] at h; done) | constructor
  | succ n ih =>
    intro v d h r
    cases r with
    | @tup a0 xs0 ds0 h1 h2 =>
      refine .tup (xs := xs0) ?_ ?_
      · rcases h1 with (h1 | ⟨o, h1⟩) | h1
        · exact .inl (.inl (keep _ _ h1 (fun z => z)))
        · exact .inl (.inr ⟨o, keep _ _ h1 (fun z => z)⟩)
        · exact .inr h1
      · have all : ∀ {vs : List V} {ds : List D}, ds.all (D.nl n) = true → RpA K w F vs ds → RpA K w F' vs ds := by
          intro vs ds
          induction ds generalizing vs with
          | nil => intro _ r; cases r; exact .nil
          | cons d ds ih2 =>
            intro h r
            rw [List.all_cons, Bool.and_eq_true] at h
            cases r with
            | cons a b => exact .cons (ih h.1 a) (ih2 h.2 b)
        exact all (by simpa [D.nl] using h) h2
    | lst _ _ => simp [D.nl] at h
    | dicK _ _ _ => simp [D.nl] at h
    | dicN _ _ _ _ => simp [D.nl] at h
    | pot _ _ => simp [D.nl] at h
    | _ => constructor
open Classical in
/-- what was lent is taken back -/
theorem Nw.back {F H F' H' : Hp} (fh : Same F H) (n : Nw H H F' H') : ∃ F2, Nw F H F2 H' ∧ ∀ b o, F' b = some o → ¬ Mut (some o) → F2 b = some o := by
  refine ⟨fun b => if F b = none ∧ ∃ o, H b = some o ∧ Mut (some o) then none else F' b, ⟨fun b o e => ?_, n.hh, fun b o e => ?_, fun b o e m e2 => ?_⟩, fun b o e m => ?_⟩
  · show (if _ then none else F' b) = some o
    rw [if_neg (fun q => by rw [e] at q; cases q.1)]
    exact n.ff b o (fh b o e)
  · have e : (if F b = none ∧ ∃ o, H b = some o ∧ Mut (some o) then none else F' b) = some o := e
    by_cases q : F b = none ∧ ∃ o, H b = some o ∧ Mut (some o)
    · rw [if_pos q] at e; cases e
    · rw [if_neg q] at e; exact n.fh b o e
  · show (if _ then none else F' b) = none
    rw [if_pos ⟨e2, o, e, m⟩]
  · show (if _ then none else F' b) = some o
    rw [if_neg (fun q => ?_)]
    · exact e
    · obtain ⟨_, o2, e2, m2⟩ := q
      have := n.ff b o2 e2
      rw [e] at this
      cases this
      exact m m2
theorem lift_fn {n : Nat} {T : FT} {r : TXA} (σ : L2.St) (H : Hp) (Q : VK) (h : liftE K w (xFn n T r) σ H Q) : tCall (spP K w n T) [] E0 (liftA K w r) σ H Q := by
  obtain ⟨G, F, ρ, k, R, ht, hp⟩ := h
  refine ⟨G, F, ρ, _, R, ht, fun pvs vs F1 H1 hx n1 r1 => ?_⟩
  obtain ⟨hl, hT⟩ := hx
  rw [List.append_nil]
  cases q : pvs.any PV.owns with
  | false =>
    rw [q] at hT
    exact ⟨F1, pvs.map PV.dat, _, n1.fh, r1.data q, by rw [List.length_map]; exact hl, hT, fun x v F2 H2 hx n2 r2 => hp x v F2 H2 hx.2 (n1.trans n2) r2⟩
  | true =>
    rw [q] at hT
    refine ⟨H1, pvs.map PV.dat, _, Same.refl _, r1.full n1.fh, by rw [List.length_map]; exact hl, hT, fun x v F2 H2 hx n2 r2 => ?_⟩
    obtain ⟨F3, n3, keep⟩ := Nw.back n1.fh n2
    exact hp x v F3 H2 hx.2 (n1.trans n3) (Rp.nl keep 400 (hx.1 rfl) r2)
end
section
variable {X : Cx} {k : Nat} {f : Addr} {fd : FuncData} {ps : List Str} {n : Nat} {T : FT} {x : Str} {p pos : Pos} {e : Expr} {es : List Expr} {r : TXA}
theorem px_fn (F : FnOk X.prog X.w X.K X.mg X.base CX0 k f fd ps (spP X.K X.w n T)) (hr : Room k X.A) (hg : Gl X x) (hm : X.mg x = some (.ref f)) (hk : PySem.W.keepIn X.K (.ref f) = true) (hb : Binds X.K fd ps [])
    (ha : PXA X (e :: es) r) (hdb : (x == ("__debug__" : Str)) = false := by decide) (he : starEach (e :: es) X.env = (false, eval e X.env) :: starEach es X.env := by rfl) (hpl : (backTo pos (starEach es X.env)).any (·.1) = false := by rfl) :
    PX X (.Call (.Name x p) (e :: es) [] pos) (xFn n T r) := PE.weak (pe_call F hr hg hm hk hb .nil pass0 ha hdb he hpl) lift_fn
end
end PL
end

section
set_option Elab.async false
set_option linter.all false
set_option maxRecDepth 100000
set_option maxHeartbeats 4000000
set_option autoImplicit false
namespace PL
open PySem PySem.Spec PyProof.Rows L2

abbrev TXJ := PEnv → (List D → Prop) → Prop
def liftJ (K : PySem.W.Frag) (w : World) (t : TXJ) : TI := fun σ H R => ∃ G F ρ k, Rep K w G F ρ σ H ∧ t ρ k ∧ ∀ xs F' H' J, k xs → Nw F H F' H' → WalkP K w F' H' J xs → R J H'
abbrev PXJ (X : Cx) (tg it : Expr) (t : TXJ) : Prop := PI X tg it (liftJ X.K X.w t)
def jX (t : TX) : TXJ := fun ρ k => t ρ fun x => match seqOf x with | some xs => k xs | none => False
def jV (i : Nat) : TXJ := fun ρ k => xP ρ[i]? fun pv => match seqOf pv.dat with | some xs => k xs | none => False
def jR1 (t : TX) : TXJ := fun ρ k => t ρ fun x => match x with | .int n => Sm2 0 n ∧ k (rngD 0 n) | _ => False
def jR2 (t u : TX) : TXJ := fun ρ k => t ρ fun x => u ρ fun y => match x, y with | .int m, .int n => Sm2 m n ∧ k (rngD m n) | _, _ => False
def jZip (t u : TX) : TXJ := fun ρ k => t ρ fun x => u ρ fun y => match x, y with
  | .tup xs, .tup ys => k (zipD xs ys)
  | .lst xs, .lst ys => k (zipD xs ys)
  | _, _ => False
section
variable {K : PySem.W.Frag} {w : World}
theorem liftJ_X {t : TX} (σ : L2.St) (H : Hp) (R : It → Hp → Prop) (h : liftJ K w (jX t) σ H R) : iSeq K (liftE K w t) σ H R := by
  obtain ⟨G, F, ρ, k, Re, ht, hp⟩ := h
  refine ⟨G, F, ρ, _, Re, ht, fun x v F' H' hx n r => ?_⟩
  cases e : seqOf x with
  | none => rw [e] at hx; exact hx.elim
  | some xs =>
    rw [e] at hx
    obtain ⟨a, rfl, q⟩ := seq_walk n.fh n.fh r e
    refine ⟨a, rfl, ?_⟩
    rcases q with ⟨ys, h1, h2⟩ | ⟨ys, h1, h2⟩
    · exact .inl ⟨ys, h1, hp xs F' H' _ hx n h2⟩
    · exact .inr ⟨ys, h1, hp xs F' H' _ hx n h2⟩
theorem liftJ_V {i : Nat} (σ : L2.St) (H : Hp) (R : It → Hp → Prop) (h : liftJ K w (jV i) σ H R) : iSeq K (tVar i) σ H R := by
  obtain ⟨G, F, ρ, k, Re, ht, hp⟩ := h
  obtain ⟨pv, e1, hk⟩ := xP_some ht
  obtain ⟨v, e2, s⟩ := Re.at_ i _ e1
  refine ⟨v, e2, ?_⟩
  cases pv with
  | odic _ _ => exact hk.elim
  | own xs =>
    obtain ⟨p, vs, rfl, _, _, h3, h4⟩ := s
    exact ⟨p, rfl, .inl ⟨vs, SqL.of h3, hp xs F H _ hk (.refl Re.fh) (walkP_list h3 h4)⟩⟩
  | d x =>
    have hk' : match seqOf x with | some xs => k xs | none => False := hk
    cases e : seqOf x with
    | none => rw [e] at hk'; exact hk'.elim
    | some xs =>
      rw [e] at hk'
      obtain ⟨a, rfl, q⟩ := seq_walk Re.fh Re.fh s e
      refine ⟨a, rfl, ?_⟩
      rcases q with ⟨ys, h1, h2⟩ | ⟨ys, h1, h2⟩
      · exact .inl ⟨ys, h1, hp xs F H _ hk' (.refl Re.fh) h2⟩
      · exact .inr ⟨ys, h1, hp xs F H _ hk' (.refl Re.fh) h2⟩
theorem liftJ_R1 {t : TX} (σ : L2.St) (H : Hp) (R : It → Hp → Prop) (h : liftJ K w (jR1 t) σ H R) : iRng1 (tCons (liftE K w t) tNil) σ H R := by
  obtain ⟨G, F, ρ, k, Re, ht, hp⟩ := h
  refine ⟨G, F, ρ, _, Re, ht, fun x v F' H' hx n r => ?_⟩
  cases x <;> try exact hx.elim
  case int m =>
    cases r
    obtain ⟨⟨_, _, h3, h4⟩, hk⟩ := hx
    refine ⟨m, rfl, by omega, by omega, hp _ F' H' _ hk n ?_⟩
    have := walkP_rng (K := K) (w := w) (F := F') (F0 := H') 0 m
    rw [Int.sub_zero] at this
    exact this
theorem liftJ_R2 {t u : TX} (σ : L2.St) (H : Hp) (R : It → Hp → Prop) (h : liftJ K w (jR2 t u) σ H R) : iRng2 (tCons (liftE K w t) (tCons (liftE K w u) tNil)) σ H R := by
  obtain ⟨G, F, ρ, k, Re, ht, hp⟩ := h
  refine ⟨G, F, ρ, _, Re, ht, fun x v F1 H1 hx n1 r1 => ⟨G, F1, ρ, _, Re.nw n1, hx, fun y v2 F2 H2 hy n2 r2 => ?_⟩⟩
  cases x <;> cases y <;> try exact hy.elim
  case int.int m o =>
    cases r1; cases r2
    obtain ⟨⟨h1, h2, h3, h4⟩, hk⟩ := hy
    exact ⟨m, o, rfl, by omega, hp _ F2 H2 _ hk (n1.trans n2) (walkP_rng m o)⟩
theorem liftJ_Zip {t u : TX} (σ : L2.St) (H : Hp) (R : It → Hp → Prop) (h : liftJ K w (jZip t u) σ H R) : RZ.iZipA K (tCons (liftE K w t) (tCons (liftE K w u) tNil)) σ H R := by
  obtain ⟨G, F, ρ, k, Re, ht, hp⟩ := h
  refine ⟨G, F, ρ, _, Re, ht, fun x v F1 H1 hx n1 r1 => ⟨G, F1, ρ, _, Re.nw n1, hx, fun y v2 F2 H2 hy n2 r2 => ?_⟩⟩
  cases x <;> cases y <;> try exact hy.elim
  case tup.tup xs ys =>
    cases r1 with
    | tup a1 b1 =>
      cases r2 with
      | tup a2 b2 =>
        have s1 := Same.sqT (n2.ff.trans n2.fh) a1
        have s2 := Same.sqT n2.fh a2
        exact ⟨_, _, _, _, rfl, .inr ⟨s1, s2, hp _ F2 H2 _ hy (n1.trans n2) (walkP_zipT s1 (RpA.same n2.ff b1) s2 b2)⟩⟩
  case lst.lst xs ys =>
    cases r1 with
    | lst a1 b1 =>
      cases r2 with
      | lst a2 b2 =>
        have s1 := n2.fh _ _ (n2.ff _ _ a1)
        have s2 := n2.fh _ _ a2
        exact ⟨_, _, _, _, rfl, .inl ⟨SqL.of s1, SqL.of s2, hp _ F2 H2 _ hy (n1.trans n2) (walkP_zipL s1 (RpA.same n2.ff b1) s2 b2)⟩⟩
end
section
variable {X : Cx} {tg e e2 : Expr} {t u : TX} {p pos : Pos}
theorem pxj_x (h : PX X e t) : PXJ X tg e (jX t) := PI.weak (pi_seq h) liftJ_X
theorem pxj_v (i : Nat) {x : Str} (hN : X.N[i]? = some x := by rfl) (hv : Vis X.env.scope x := by first | exact Or.inl rfl | exact Or.inr (Or.inl rfl) | exact Or.inr (Or.inr rfl)) (hd : (x == ("__debug__" : Str)) = false := by decide)
    (hcd : (x == ("__classdict__" : Str)) = false := by decide) : PXJ X tg (.Name x pos) (jV i) := PI.weak (pi_seq (pe_var hN hv hd hcd)) liftJ_V
theorem pxj_r1 (hg : Gl X "range") (hm : X.mg "range" = none) (h : PX X e t) (hs : starEach [e] X.env = [(false, eval e X.env)] := by rfl) : PXJ X tg (.Call (.Name "range" p) [e] [] pos) (jR1 t) :=
  PI.weak (pi_range1 hg hm (pa_cons h pa_nil hs) hs) liftJ_R1
theorem pxj_r2 (hg : Gl X "range") (hm : X.mg "range" = none) (h : PX X e t) (h2 : PX X e2 u) (hs : starEach [e, e2] X.env = [(false, eval e X.env), (false, eval e2 X.env)] := by rfl) (hs2 : starEach [e2] X.env = [(false, eval e2 X.env)] := by rfl) :
    PXJ X tg (.Call (.Name "range" p) [e, e2] [] pos) (jR2 t u) := PI.weak (pi_range2 hg hm (pa_cons h (pa_cons h2 pa_nil hs2) (by rw [hs, hs2])) hs hs2) liftJ_R2
theorem pxj_zip {elts : List Expr} {kk : Nat} {tpos : Pos} (hg : Gl X "zip") (hm : X.mg "zip" = none) (h : PX X e t) (h2 : PX X e2 u) (hs : starEach [e, e2] X.env = (false, eval e X.env) :: starEach [e2] X.env := by rfl) (hs2 : starEach [e2] X.env = (false, eval e2 X.env) :: starEach [] X.env := by rfl)
    (hpl : (backTo pos (starEach [e2] X.env)).any (·.1) = false := by rfl) : PXJ X (.Tuple elts kk tpos) (.Call (.Name "zip" p) [e, e2] [] pos) (jZip t u) := PI.weak (RZ.pi_zipA hg hm (pa_cons h (pa_cons h2 pa_nil hs2) hs) hs hpl) liftJ_Zip
end

inductive CT where
  | name (i : Nat) | tup (is : List Nat)
def CT.raw (K : PySem.W.Frag) : CT → TG
  | .name i => gName i
  | .tup is => gTup K is.length (gNames is)
def CT.bind : CT → D → PEnv → (PEnv → Prop) → Prop
  | .name i => gN i
  | .tup is => gT is
def CT.ixs : CT → List Nat
  | .name i => [i]
  | .tup is => is
def wipeP (ρ : PEnv) : List Nat → PEnv
  | [] => ρ
  | v :: vs => (wipeP ρ vs).set v none
section
variable {K : PySem.W.Frag} {w : World} {G F H : Hp} {ρ : PEnv} {σ : L2.St}
theorem Rep.drop2 (R : Rep K w G F ρ σ H) (i : Nat) : Rep K w G F (ρ.set i none) (σ.set i none) H := by
  have old : ∀ (j : Nat) (pv : PV), (ρ.set i none)[j]? = some (some pv) → j ≠ i ∧ ρ[j]? = some (some pv) := fun j pv e => by
    rcases set_get e with ⟨_, e1, _⟩ | ⟨ne, e1⟩
    · cases e1
    · exact ⟨ne, e1⟩
  refine ⟨R.gh, R.fh, by simpa using R.len, fun j pv e => ?_, fun a b p q u ea eb oa ob sa sb => ?_⟩
  · obtain ⟨ne, e1⟩ := old j pv e
    obtain ⟨v, h1, h2⟩ := R.at_ j pv e1
    exact ⟨v, by rw [List.getElem?_set_ne (Ne.symm ne)]; exact h1, h2⟩
  · obtain ⟨na, e1⟩ := old a p ea
    obtain ⟨nb, e2⟩ := old b q eb
    rw [List.getElem?_set_ne (Ne.symm na)] at sa
    rw [List.getElem?_set_ne (Ne.symm nb)] at sb
    exact R.sep a b p q u e1 e2 oa ob sa sb
theorem Rep.wipe (R : Rep K w G F ρ σ H) : ∀ vs : List Nat, Rep K w G F (wipeP ρ vs) (L2.wipe σ vs) H
  | [] => R
  | v :: vs => (Rep.wipe R vs).drop2 v
theorem wipe_set (σ : L2.St) {i : Nat} (x : Option V) : ∀ {vs : List Nat}, i ∈ vs → L2.wipe (σ.set i x) vs = L2.wipe σ vs
  | [], h => by cases h
  | v :: vs, h => by
    show (L2.wipe (σ.set i x) vs).set v none = (L2.wipe σ vs).set v none
    by_cases e : i ∈ vs
    · rw [wipe_set σ x e]
    · have ev : i = v := by
        rcases List.mem_cons.mp h with q | q
        · exact q
        · exact absurd q e
      subst ev
      have comm : ∀ (vs : List Nat) (σ : L2.St), i ∉ vs → L2.wipe (σ.set i x) vs = (L2.wipe σ vs).set i x := by
        intro vs
        induction vs with
        | nil => intro σ _; rfl
        | cons v vs ih =>
          intro σ hn
          show (L2.wipe (σ.set i x) vs).set v none = ((L2.wipe σ vs).set v none).set i x
          rw [ih σ (fun q => hn (List.mem_cons_of_mem _ q)), List.set_comm]
          exact fun q => hn (by rw [q]; exact List.mem_cons_self ..)
      rw [comm vs σ e, List.set_set]
theorem wipe_wipe (σ : L2.St) : ∀ vs us : List Nat, (∀ i ∈ vs, i ∈ us) → L2.wipe (L2.wipe σ vs) us = L2.wipe σ us
  | [], _, _ => rfl
  | v :: vs, us, h => by
    show L2.wipe ((L2.wipe σ vs).set v none) us = L2.wipe σ us
    rw [wipe_set _ none (h v (List.mem_cons_self ..)), wipe_wipe σ vs us fun i hi => h i (List.mem_cons_of_mem _ hi)]
/-- the targets are bound -/
theorem CT.bound {us : List Nat} : ∀ {c : CT} {x : D} {v : V} {k : PEnv → Prop} {Q : L2.St → Hp → Prop}, (∀ i ∈ c.ixs, i ∈ us) → c.bind x ρ k → Rp K w F v x → Rep K w G F ρ σ H →
    (∀ ρ' σ', k ρ' → Rep K w G F ρ' σ' H → L2.wipe σ' us = L2.wipe σ us → Q σ' H) → c.raw K v σ H Q := by
  intro c x v k Q hu hb r R hq
  cases c with
  | name i => exact hq _ _ hb (R.setD i r) (wipe_set σ _ (hu i (List.mem_singleton.mpr rfl)))
  | tup is =>
    cases x <;> try exact hb.elim
    case tup xs =>
      obtain ⟨hl, hk⟩ := hb
      cases r with
      | tup h1 h2 =>
        refine ⟨_, _, rfl, Same.sqT R.fh h1, by rw [h2.length, hl], ?_⟩
        have all : ∀ {is : List Nat} {xs : List D} {vs : List V} {ρ : PEnv} {σ : L2.St} {Q : L2.St → Hp → Prop}, (∀ i ∈ is, i ∈ us) → xs.length = is.length → RpA K w F vs xs → Rep K w G F ρ σ H →
            (∀ σ', Rep K w G F (gsSet is xs ρ) σ' H → L2.wipe σ' us = L2.wipe σ us → Q σ' H) → gNames is vs σ H Q := by
          intro is
          induction is with
          | nil =>
            intro xs vs ρ σ Q _ hl r R hq
            cases xs with
            | nil => cases r; exact ⟨rfl, hq _ R rfl⟩
            | cons _ _ => cases hl
          | cons i is ih =>
            intro xs vs ρ σ Q hu hl r R hq
            cases xs with
            | nil => cases hl
            | cons x xs =>
              cases r with
              | cons a b =>
                refine ⟨_, _, rfl, ih (fun j hj => hu j (List.mem_cons_of_mem _ hj)) (by simpa using hl) b (R.setD i a) fun σ' R' e => hq σ' R' ?_⟩
                rw [e, wipe_set σ _ (hu i (List.mem_cons_self ..))]
        exact all hu hl h2 R fun σ' R' e => hq _ σ' hk R' e
end

def compP (c : CT) (tt : TXT) (te : TX) (ρ : PEnv) (k : List D → Prop) : List D → List D → Prop
  | [], acc => k acc
  | x :: xs, acc => c.bind x ρ fun ρ2 => tt ρ2 fun b => if b = true then te ρ2 fun y => Sm (acc.length + 1) ∧ compP c tt te ρ k xs (acc ++ [y]) else compP c tt te ρ k xs acc
def tYesP : TXT := fun _ k => k true
def fLc (tj : TXJ) (c : CT) (tt : TXT) (te : TX) (vs : List Nat) : PEnv → (List D → Prop) → Prop := fun ρ k => tj ρ fun xs => compP c tt te (wipeP ρ vs) k xs []
theorem Nw.muto {F H F' H' : Hp} {p : Addr} {o : HO} (n : Nw F H F' H') (hp : H p = none) (fp : F' p = none) : Nw F H F' (upd H' p o) := by
  refine ⟨n.ff, fun b u e => ?_, fun b u e => ?_, n.nw⟩
  · rw [upd_ne (ne_of_none e hp)]
    exact n.hh b u e
  · rw [upd_ne (ne_of_none e fp)]
    exact n.fh b u e
section
variable {K : PySem.W.Frag} {w : World}
theorem lift_yes (σ : L2.St) (H : Hp) (Q : Bool → Hp → Prop) (h : liftT K w tYesP σ H Q) : tYes σ H Q := by
  obtain ⟨G, F, ρ, k, R, ht, hp⟩ := h
  exact hp true F H ht (.refl R.fh)
theorem lift_lc {tj : TXJ} {c : CT} {tt : TXT} {te : TX} {vs : List Nat} (hv : ∀ i ∈ c.ixs, i ∈ vs) (σ : L2.St) (H : Hp) (Q : VK) (h : liftF K w (fLc tj c tt te vs) σ H Q) : tLc (liftJ K w tj) (c.raw K) (liftT K w tt) (liftE K w te) vs σ H Q := by
  obtain ⟨G, F, ρ, k, R, ht, hp⟩ := h
  refine ⟨G, F, ρ, _, R, ht, fun xs F1 H1 J hx n1 wk => ?_⟩
  intro L hL
  have fL : F1 L = none := none_of_same n1.fh hL
  refine ⟨fun i m H2 => m = xs.length - i ∧ i ≤ xs.length ∧ ∃ F2 acc us, Nw F1 H1 F2 H2 ∧ F2 L = none ∧ H2 L = some (.lst us) ∧ RpA K w F2 us acc ∧ compP c tt te (wipeP ρ vs) k (xs.drop i) acc,
    ⟨xs.length, by simp, Nat.zero_le _, F1, [], [], .own n1.fh hL, fL, upd_same, .nil, by simpa using hx⟩, ?_⟩
  rintro i m H2 ⟨rfl, hi, F2, acc, us, n2, f2, h2, r2, hc⟩
  by_cases hlt : i < xs.length
  · refine .inr ⟨wk.goes i H2 hlt n2.hh, fun H3 => ∃ F3 acc us, Nw F1 H1 F3 H3 ∧ F3 L = none ∧ H3 L = some (.lst us) ∧ RpA K w F3 us acc ∧ compP c tt te (wipeP ρ vs) k (xs.drop (i + 1)) acc, fun H3 q => ⟨xs.length - (i + 1), by omega, rfl, hlt, q⟩, fun v H3 hy => ?_⟩
    obtain ⟨x, hxi⟩ : ∃ x, xs[i]? = some x := ⟨xs[i], by simp [hlt]⟩
    obtain ⟨F3, n3, r3⟩ := wk.yields i F2 H2 v H3 x n2.ff n2.fh n2.hh hxi hy
    have ed : xs.drop i = x :: xs.drop (i + 1) := by
      rw [List.drop_eq_getElem_cons hlt]
      congr 1
      rw [List.getElem?_eq_getElem hlt] at hxi
      exact Option.some.inj hxi
    rw [ed] at hc
    have n13 := n2.trans n3
    have R3 := ((R.nw n1).nw n13).wipe vs
    refine CT.bound hv hc r3 R3 fun ρ4 σ4 hk R4 hw => ⟨by rw [hw, wipe_wipe σ vs vs fun _ q => q], G, F3, ρ4, _, R4, hk, fun b F5 H5 hb n5 => ?_⟩
    have n15 := n13.trans n5
    have f5 : F5 L = none := (n3.trans n5).nw L _ h2 trivial f2
    have h5 := (n3.trans n5).hh _ _ h2
    have r5 := RpA.same (n3.trans n5).ff r2
    cases b with
    | false => exact ⟨F5, acc, us, n15, f5, h5, r5, hb⟩
    | true =>
      refine ⟨G, F5, ρ4, _, R4.nw n5, hb, fun y u F6 H6 hy n6 r6 => ?_⟩
      have f6 := n6.nw L _ h5 trivial f5
      have h6 := n6.hh _ _ h5
      refine ⟨us, h6, by have := hy.1.line; rw [r2.length]; omega, F6, acc ++ [y], us ++ [u], (n15.trans n6).muto hL f6, f6, upd_same, (RpA.same n6.ff r5).append (.one r6), hy.2⟩
  · have e' : i = xs.length := by omega
    subst e'
    rw [List.drop_length] at hc
    refine .inl ⟨wk.stops H2 n2.hh, hp acc us L F2 H2 hc (n1.trans n2) (none_of_same n1.hh hL) f2 h2 r2⟩
end
section
variable {X : Cx} {elt tg iter : Expr} {ifs : List Expr} {scope : Scope} {own : List (Str × Nat)} {pos spos py : Pos} {tj : TXJ} {c : CT} {tt : TXT} {te : TX}
abbrev PXTs (X : Cx) (ifs : List Expr) (t : TXT) : Prop := PTs X ifs (liftT X.K X.w t)
theorem pxts_nil : PXTs X [] tYesP := ⟨fun pins s σ H Q I h => pts_nil.run pins s σ H Q I (lift_yes σ H Q h)⟩
theorem pxts_one {e : Expr} {t : TXT} (h : PXT X e t) : PXTs X [e] t := pts_one h
theorem pf_lc (hc : X.calm = true) (hN : X.N.Nodup) (hi : PXJ X tg iter tj) (ok : BlkOk X.N X.env.scope scope own) (hv : ∀ i ∈ c.ixs, i ∈ own.map (·.2))
    (hg : ∀ (s : Shared) (H : Hp) (C : Addr) (cl : List (Str × Addr)) (fp : List Addr), PG (X.blk s H scope (compEnvC scope cl C X.env) fp) tg (c.raw X.K))
    (ht : ∀ (s : Shared) (H : Hp) (C : Addr) (cl : List (Str × Addr)) (fp : List Addr), PXTs (X.blk s H scope (compEnvC scope cl C X.env) fp) ifs tt)
    (he : ∀ (s : Shared) (H : Hp) (C : Addr) (cl : List (Str × Addr)) (fp : List Addr), PX (X.blk s H scope (compEnvC scope cl C X.env) fp) elt te) (hs : ∀ x, foldedSetIterable iter X.env x = pure x := by intro _; rfl) :
    PF X (.ListComp elt [⟨tg, iter, ifs, 0⟩] scope pos) (fLc tj c tt te (own.map (·.2))) := PE.weak (pe_lc hc hN hi ok hg ht he hs) (lift_lc hv)
theorem pxs_setLc {i : Nat} {y : Str} (hc : X.calm = true) (hN : X.N.Nodup) (hy : X.N[i]? = some y) (hyl : X.env.scope.names.lookup y = some .local)
    (hsw : swapsWith (.ListComp elt [⟨tg, iter, ifs, 0⟩] scope pos) (some (.Name y py)) spos.line X.env = pure true) (hi : PXJ X tg iter tj) (ok : BlkOk X.N X.env.scope scope own) (hv : ∀ i ∈ c.ixs, i ∈ own.map (·.2))
    (hg : ∀ (s : Shared) (H : Hp) (C : Addr) (cl : List (Str × Addr)) (fp : List Addr), PG (X.blk s H scope (compEnvC scope cl C X.env) fp) tg (c.raw X.K))
    (ht : ∀ (s : Shared) (H : Hp) (C : Addr) (cl : List (Str × Addr)) (fp : List Addr), PXTs (X.blk s H scope (compEnvC scope cl C X.env) fp) ifs tt)
    (he : ∀ (s : Shared) (H : Hp) (C : Addr) (cl : List (Str × Addr)) (fp : List Addr), PX (X.blk s H scope (compEnvC scope cl C X.env) fp) elt te) (hs : ∀ x, foldedSetIterable iter X.env x = pure x := by intro _; rfl) :
    PXS X (.Assign [.Name y py] (.ListComp elt [⟨tg, iter, ifs, 0⟩] scope pos) spos) (sSetF i (fLc tj c tt te (own.map (·.2)))) := PS.weak (ps_setLc hc hN hy hyl hsw hi ok hg ht he hs) fun Z σ H ⟨G, F, ρ, D', R, h1, e⟩ =>
  lift_lc hv σ H _ ⟨G, F, ρ, _, R, h1, fun xs vs p F' H' hx n hp fp hv' r => e.nx F' _ _ H' hx (n.gr R.gh) ((R.nw n).setO i ⟨p, vs, rfl, none_of_same R.gh hp, fp, hv', r⟩ (R.fresh hp))⟩
end

def startP (n : Nat) (ds : List D) : PEnv := ds.map (fun d => some (.d d)) ++ List.replicate (n - ds.length) none
section
variable {P : Program} {w : World} {K : PySem.W.Frag} {mg : Str → Option Value} {base : Heap}
theorem start_rep {H F : Hp} (fh : Same F H) {N : List Str} {vs : List V} {ds : List D} (r : RpA K w F vs ds) : Rep K w H F (startP N.length ds) (L2.start N vs) H := by
  refine ⟨Same.refl _, fh, ?_, fun i pv e => ?_, fun i j p q v e1 e2 o1 _ _ _ => ?_⟩
  · simp [startP, L2.start, r.length]
  · unfold startP at e
    rcases Nat.lt_or_ge i ds.length with hl | hl
    · rw [List.getElem?_append_left (by simpa using hl), List.getElem?_map] at e
      cases q : ds[i]? with
      | none => rw [q] at e; cases e
      | some d =>
        rw [q] at e
        cases e
        obtain ⟨v, h1, h2⟩ := r.get q
        refine ⟨v, ?_, h2⟩
        unfold L2.start
        rw [List.getElem?_append_left (by rw [List.length_map, r.length]; exact hl), List.getElem?_map, h1]
        rfl
    · rw [List.getElem?_append_right (by simpa using hl), List.getElem?_replicate] at e
      split at e <;> cases e
  · exfalso
    unfold startP at e1
    rcases Nat.lt_or_ge i ds.length with hl | hl
    · rw [List.getElem?_append_left (by simpa using hl), List.getElem?_map] at e1
      cases q : ds[i]? with
      | none => rw [q] at e1; cases e1
      | some d =>
        rw [q] at e1
        cases e1
        cases o1
    · rw [List.getElem?_append_right (by simpa using hl), List.getElem?_replicate] at e1
      split at e1 <;> cases e1
/-- THE RULE: the body as a term, the reading over plain data -/
theorem fnP {x q : Str} {params : Arguments} {body : List Stmt} {scope : Scope} {f : Addr} {fd : FuncData} {N ps : List Str} {k n : Nat} {T : FT} {t : TXS} (Fd : FunD K x q params body scope [] [] f fd) (S : FnScope N ps scope) (hn : ps.length = n)
    (hb : ∀ (cdv : Value) (A : Around) (outer : List Env) (s : Shared) (H : Hp) (E : XK), Room k (A.deeper (envOfC q scope s.heap.objs.size f cdv)) → PXSs (cxOf CX0 P w K mg base N q scope f cdv A outer s H E).nox body t)
    (hT : ∀ ds k, ds.length = n → T ds k → t { nx := fun _ => k .non, rt := k } (startP N.length ds)) : FnOk P w K mg base CX0 (k + 1) f fd ps (spP K w n T) := by
  refine Fd.ok S (fun vs H Q E ⟨F, ds, _, _, r, hl, _⟩ => by rw [r.length, hl, hn]) fun cdv A outer s H vs Q E hr ⟨F, ds, k, fh, r, hl, ht, hp⟩ => ⟨_, PSs.nox (hb cdv A outer s H E hr), ?_⟩
  refine ⟨H, F, _, _, start_rep fh r, hT ds k hl ht, ?_⟩
  refine ⟨fun F' ρ' σ' H' a g R => hp .non .non F' H' a ⟨g.ff, R.gh, R.fh, g.nw⟩ .non, fun _ _ _ _ a _ _ => a.elim, fun _ _ _ _ a _ _ => a.elim, fun x v F' H' a g b c r => hp x v F' H' a ⟨g.ff, b, c, g.nw⟩ r⟩
end
end PL
end

section
set_option Elab.async false
set_option linter.all false
set_option maxRecDepth 100000
set_option maxHeartbeats 2000000
namespace PL
open PySem PySem.Spec PyProof.Rows L2
def negD (x : D) (k : D → Prop) : Prop := match x with | .int i => k (.int (-i)) | _ => False
def xNeg (t : TX) : TX := fun ρ k => t ρ fun x => negD x k
section
variable {X : Cx} {e : Expr} {te : TX} {pos : Pos}
theorem px_neg (h : PX X e te) : PX X (.UnaryOp .USub e pos) (xNeg te) := PE.weak (pe_un un_neg h) fun σ H Q ⟨G, F, ρ, k, R, ht, hp⟩ => ⟨G, F, ρ, _, R, ht, fun x v F' H' hx n r => by
  cases x <;> try exact hx.elim
  cases r
  exact ⟨_, rfl, hp _ _ F' H' hx n (.int _)⟩⟩
end
/-- a def that keeps its promise, known by its name -/
structure Cal (P : Program) (w : World) (K : PySem.W.Frag) (mg : Str → Option Value) (base : Heap) (x : Str) (k n : Nat) (ps : List Str) (T : FT) : Prop where
  ex : ∃ f fd, FnOk P w K mg base CX0 k f fd ps (spP K w n T) ∧ mg x = some (.ref f) ∧ PySem.W.keepIn K (.ref f) = true ∧ Binds K fd ps []
section
variable {X : Cx} {k j n : Nat} {ps : List Str} {T : FT} {x : Str} {p pos : Pos} {e : Expr} {es : List Expr} {r : TXA}
theorem px_call (C : Cal X.prog X.w X.K X.mg X.base x j n ps T) (hr : Room k X.A) (hj : j ≤ k) (hg : Gl X x) (ha : PXA X (e :: es) r)
    (hdb : (x == ("__debug__" : Str)) = false := by decide) (he : starEach (e :: es) X.env = (false, eval e X.env) :: starEach es X.env := by rfl) (hpl : (backTo pos (starEach es X.env)).any (·.1) = false := by rfl) :
    PX X (.Call (.Name x p) (e :: es) [] pos) (xFn n T r) := by
  obtain ⟨f, fd, F, m, kp, b⟩ := C.ex
  exact px_fn F (hr.mono hj) hg m kp b ha hdb he hpl
theorem u64 {A : Around} (hr : Room k A) : A.units + 64 < cLine := by have := hr.un; omega
theorem u65 {A : Around} (hr : Room k A) : A.units + 65 < cLine := by have := hr.un; omega
end
section
variable {X : Cx} {pos : Pos}
theorem ct_name {i : Nat} {x : Str} (hN : X.N.Nodup) (hi : X.N[i]? = some x) (hx : Loc X.env.scope x) (hf : X.fn x = true ∨ X.env.scope.names.lookup x = some .local) : PG X (.Name x pos) ((CT.name i).raw X.K) := pg_name hN hi hx hf
theorem ct_tup {is : List Nat} {es : List Expr} {k : Nat} (hc : X.calm = true) (h : PGs X es (gNames is)) (hn : (assignEach es X.env).length = is.length := by rfl) (hst : (assignEach es X.env).findIdx? (·.1) = none := by rfl) : PG X (.Tuple es k pos) ((CT.tup is).raw X.K) := pg_tup hc h hn hst
end
end PL
end

section
set_option Elab.async false
set_option linter.all false
set_option maxRecDepth 100000
set_option maxHeartbeats 2000000
namespace PL
open PySem PySem.Spec PyProof.Rows L2
section
variable {K : PySem.W.Frag} {w : World} {G F H Hm : Hp} {ρ : PEnv} {σ : L2.St}
theorem CT.bound' {us : List Nat} : ∀ {c : CT} {x : D} {v : V} {k : PEnv → Prop} {Q : L2.St → Hp → Prop}, (∀ i ∈ c.ixs, i ∈ us) → c.bind x ρ k → Rp K w F v x → Rep K w G F ρ σ Hm → Same Hm H →
    (∀ ρ' σ', k ρ' → Rep K w G F ρ' σ' Hm → L2.wipe σ' us = L2.wipe σ us → Q σ' H) → c.raw K v σ H Q := by
  intro c x v k Q hu hb r R hm hq
  cases c with
  | name i => exact hq _ _ hb (R.setD i r) (wipe_set σ _ (hu i (List.mem_singleton.mpr rfl)))
  | tup is =>
    cases x <;> try exact hb.elim
    case tup xs =>
      obtain ⟨hl, hk⟩ := hb
      cases r with
      | tup h1 h2 =>
        refine ⟨_, _, rfl, Same.sqT (R.fh.trans hm) h1, by rw [h2.length, hl], ?_⟩
        have all : ∀ {is : List Nat} {xs : List D} {vs : List V} {ρ : PEnv} {σ : L2.St} {Q : L2.St → Hp → Prop}, (∀ i ∈ is, i ∈ us) → xs.length = is.length → RpA K w F vs xs → Rep K w G F ρ σ Hm →
            (∀ σ', Rep K w G F (gsSet is xs ρ) σ' Hm → L2.wipe σ' us = L2.wipe σ us → Q σ' H) → gNames is vs σ H Q := by
          intro is
          induction is with
          | nil =>
            intro xs vs ρ σ Q _ hl r R hq
            cases xs with
            | nil => cases r; exact ⟨rfl, hq _ R rfl⟩
            | cons _ _ => cases hl
          | cons i is ih =>
            intro xs vs ρ σ Q hu hl r R hq
            cases xs with
            | nil => cases hl
            | cons x xs =>
              cases r with
              | cons a b =>
                refine ⟨_, _, rfl, ih (fun j hj => hu j (List.mem_cons_of_mem _ hj)) (by simpa using hl) b (R.setD i a) fun σ' R' e => hq σ' R' ?_⟩
                rw [e, wipe_set σ _ (hu i (List.mem_cons_self ..))]
        exact all hu hl h2 R fun σ' R' e => hq _ σ' hk R' e
end
/-- a walk that leans on nothing -/
def liftJ0 (K : PySem.W.Frag) (w : World) (t : TXJ) : TI := fun σ H R => ∃ G F ρ k, Rep K w G F ρ σ H ∧ t ρ k ∧ ∀ xs F' H' J, k xs → Nw F H F' H' → WalkP K w F' F' J xs → R J H'
abbrev PXJ0 (X : Cx) (tg it : Expr) (t : TXJ) : Prop := PI X tg it (liftJ0 X.K X.w t)
section
variable {X : Cx} {tg e : Expr} {t : TX} {p pos : Pos}
theorem pxj0_r1 (hg : Gl X "range") (hm : X.mg "range" = none) (h : PX X e t) (hs : starEach [e] X.env = [(false, eval e X.env)] := by rfl) : PXJ0 X tg (.Call (.Name "range" p) [e] [] pos) (jR1 t) :=
  PI.weak (pi_range1 hg hm (pa_cons h pa_nil hs) hs) fun σ H R ⟨G, F, ρ, k, Re, ht, hp⟩ => ⟨G, F, ρ, _, Re, ht, fun x v F' H' hx n r => by
    cases x <;> try exact hx.elim
    case int m =>
      cases r
      obtain ⟨⟨_, _, h3, h4⟩, hk⟩ := hx
      refine ⟨m, rfl, by omega, by omega, hp _ F' H' _ hk n ?_⟩
      have := walkP_rng (K := X.K) (w := X.w) (F := F') (F0 := F') 0 m
      rw [Int.sub_zero] at this
      exact this⟩
end
def comp2P (c : CT) (tt : TXT) (j1 : TXJ) (c1 : CT) (tt1 : TXT) (te : TX) (vs1 : List Nat) (ρ : PEnv) (k : List D → Prop) : List D → List D → Prop
  | [], acc => k acc
  | x :: xs, acc => c.bind x ρ fun ρ2 => tt ρ2 fun b => if b = true then j1 ρ2 fun ys => compP c1 tt1 te (wipeP ρ2 vs1) (fun acc' => comp2P c tt j1 c1 tt1 te vs1 ρ k xs acc') ys acc else comp2P c tt j1 c1 tt1 te vs1 ρ k xs acc
def fLc2 (tj : TXJ) (c : CT) (tt : TXT) (j1 : TXJ) (c1 : CT) (tt1 : TXT) (te : TX) (vs vs1 : List Nat) : PEnv → (List D → Prop) → Prop := fun ρ k => tj ρ fun xs => comp2P c tt j1 c1 tt1 te vs1 (wipeP ρ vs) k xs []
section
variable {K : PySem.W.Frag} {w : World}
theorem lift_lc2 {tj j1 : TXJ} {c c1 : CT} {tt tt1 : TXT} {te : TX} {vs vs1 : List Nat} (hv : ∀ i ∈ c.ixs, i ∈ vs) (hv1 : ∀ i ∈ c1.ixs, i ∈ vs1) (σ : L2.St) (H : Hp) (Q : VK) (h : liftF K w (fLc2 tj c tt j1 c1 tt1 te vs vs1) σ H Q) :
    tLc2 (liftJ K w tj) (c.raw K) (liftT K w tt) (liftJ0 K w j1) (c1.raw K) (liftT K w tt1) (liftE K w te) vs vs1 σ H Q := by
  obtain ⟨G, F, ρ, k, R, ht, hp⟩ := h
  refine ⟨G, F, ρ, _, R, ht, fun xs F1 H1 J hx n1 wk => ?_⟩
  intro L hL
  have fL : F1 L = none := none_of_same n1.fh hL
  have drop1 : ∀ {xs : List D} {i : Nat} {x : D}, i < xs.length → xs[i]? = some x → xs.drop i = x :: xs.drop (i + 1) := fun {xs i x} hlt hxi => by
    rw [List.drop_eq_getElem_cons hlt]
    congr 1
    rw [List.getElem?_eq_getElem hlt] at hxi
    exact Option.some.inj hxi
  refine ⟨fun i m H2 => m = xs.length - i ∧ i ≤ xs.length ∧ ∃ F2 acc us, Nw F1 H1 F2 H2 ∧ F2 L = none ∧ H2 L = some (.lst us) ∧ RpA K w F2 us acc ∧ comp2P c tt j1 c1 tt1 te vs1 (wipeP ρ vs) k (xs.drop i) acc,
    ⟨xs.length, by simp, Nat.zero_le _, F1, [], [], .own n1.fh hL, fL, upd_same, .nil, by simpa using hx⟩, ?_⟩
  rintro i m H2 ⟨rfl, hi, F2, acc, us, n2, f2, h2, r2, hc⟩
  by_cases hlt : i < xs.length
  · refine .inr ⟨wk.goes i H2 hlt n2.hh, fun H3 => ∃ F3 acc us, Nw F1 H1 F3 H3 ∧ F3 L = none ∧ H3 L = some (.lst us) ∧ RpA K w F3 us acc ∧ comp2P c tt j1 c1 tt1 te vs1 (wipeP ρ vs) k (xs.drop (i + 1)) acc, fun H3 q => ⟨xs.length - (i + 1), by omega, rfl, hlt, q⟩, fun v H3 hy => ?_⟩
    obtain ⟨x, hxi⟩ : ∃ x, xs[i]? = some x := ⟨xs[i], by simp [hlt]⟩
    obtain ⟨F3, n3, r3⟩ := wk.yields i F2 H2 v H3 x n2.ff n2.fh n2.hh hxi hy
    rw [drop1 hlt hxi] at hc
    have n13 := n2.trans n3
    have f3 : F3 L = none := n3.nw L _ h2 trivial f2
    -- the heap without the new list
    obtain ⟨Hm, hm1, hm2⟩ : ∃ Hm : Hp, Hm L = none ∧ ∀ a, a ≠ L → Hm a = H3 a := ⟨fun a => if a = L then none else H3 a, by simp, fun a h => by simp [h]⟩
    have m3 : Same Hm H3 := fun a o q => by
      by_cases e : a = L
      · subst e; rw [hm1] at q; cases q
      · rw [← hm2 a e]; exact q
    have nm : Nw F1 H1 F3 Hm := ⟨n13.ff, fun a o q => by rw [hm2 a (ne_of_none q hL)]; exact n13.hh a o q, fun a o q => by rw [hm2 a (ne_of_none q f3)]; exact n13.fh a o q, n13.nw⟩
    have n33 : Nw F3 Hm F3 H3 := ⟨Same.refl _, m3, n13.fh, fun _ _ _ _ q => q⟩
    have R3 := ((R.nw n1).nw nm).wipe vs
    refine CT.bound' hv hc r3 R3 m3 fun ρ4 σ4 hk R4 hw => ⟨by rw [hw, wipe_wipe σ vs vs fun _ q => q], G, F3, ρ4, _, R4.nw n33, hk, fun b F5 H5 hb n5 => ?_⟩
    have n35 := n33.trans n5
    have f5 : F5 L = none := (n3.trans n5).nw L _ h2 trivial f2
    have h5 := (n3.trans n5).hh _ _ h2
    have r5 := RpA.same (n3.trans n5).ff r2
    cases b with
    | false => exact ⟨F5, acc, us, n13.trans n5, f5, h5, r5, hb⟩
    | true =>
      refine ⟨G, F5, ρ4, _, R4.nw n35, hb, fun ys F6 H6 J1 hys n6 wk1 => ?_⟩
      have n36 := n35.trans n6
      have f6 := n6.nw L _ h5 trivial f5
      have h6 := n6.hh _ _ h5
      have out : ∀ {F7 H7 : Hp}, Nw F3 Hm F7 H7 → Nw F1 H1 F7 H7 := fun n => nm.trans n
      refine ⟨fun j m H7 => m = ys.length - j ∧ j ≤ ys.length ∧ ∃ F7 acc us, Nw F3 Hm F7 H7 ∧ Same F6 F7 ∧ F7 L = none ∧ H7 L = some (.lst us) ∧ RpA K w F7 us acc ∧ compP c1 tt1 te (wipeP ρ4 vs1) (fun acc' => comp2P c tt j1 c1 tt1 te vs1 (wipeP ρ vs) k (xs.drop (i + 1)) acc') (ys.drop j) acc,
        ⟨ys.length, by simp, Nat.zero_le _, F6, acc, us, n36, Same.refl _, f6, h6, RpA.same n6.ff r5, by simpa using hys⟩, ?_⟩
      rintro j m H7 ⟨rfl, hj, F7, acc7, us7, n7, s7, f7, h7, r7, hc7⟩
      by_cases hl1 : j < ys.length
      · refine .inr ⟨wk1.goes j H7 hl1 (s7.trans n7.fh), fun H8 => ∃ F8 acc us, Nw F3 Hm F8 H8 ∧ Same F6 F8 ∧ F8 L = none ∧ H8 L = some (.lst us) ∧ RpA K w F8 us acc ∧ compP c1 tt1 te (wipeP ρ4 vs1) (fun acc' => comp2P c tt j1 c1 tt1 te vs1 (wipeP ρ vs) k (xs.drop (i + 1)) acc') (ys.drop (j + 1)) acc,
          fun H8 q => ⟨ys.length - (j + 1), by omega, rfl, hl1, q⟩, fun v8 H8 hy8 => ?_⟩
        obtain ⟨y, hyj⟩ : ∃ y, ys[j]? = some y := ⟨ys[j], by simp [hl1]⟩
        obtain ⟨F8, n8, r8⟩ := wk1.yields j F7 H7 v8 H8 y s7 n7.fh (s7.trans n7.fh) hyj hy8
        rw [drop1 hl1 hyj] at hc7
        have n78 := n7.trans n8
        have R8 := (R4.nw n78).wipe vs1
        refine CT.bound hv1 hc7 r8 R8 fun ρ9 σ9 hk9 R9 hw9 => ⟨by rw [hw9, wipe_wipe σ4 vs1 vs1 fun _ q => q], G, F8, ρ9, _, R9, hk9, fun b F10 H10 hb10 n10 => ?_⟩
        have f10 : F10 L = none := (n8.trans n10).nw L _ h7 trivial f7
        have h10 := (n8.trans n10).hh _ _ h7
        have r10 := RpA.same (n8.trans n10).ff r7
        have s10 : Same F6 F10 := s7.trans (n8.trans n10).ff
        cases b with
        | false => exact ⟨F10, acc7, us7, n78.trans n10, s10, f10, h10, r10, hb10⟩
        | true =>
          refine ⟨G, F10, ρ9, _, R9.nw n10, hb10, fun y u F11 H11 hy n11 r11 => ?_⟩
          have f11 := n11.nw L _ h10 trivial f10
          have h11 := n11.hh _ _ h10
          refine ⟨us7, h11, by have := hy.1.line; rw [r7.length]; omega, F11, acc7 ++ [y], us7 ++ [u], ((n78.trans n10).trans n11).muto hm1 f11, s10.trans n11.ff, f11, upd_same, (RpA.same n11.ff r10).append (.one r11), hy.2⟩
      · have e' : j = ys.length := by omega
        subst e'
        rw [List.drop_length] at hc7
        exact .inl ⟨wk1.stops H7 (s7.trans n7.fh), F7, acc7, us7, out n7, f7, h7, r7, hc7⟩
  · have e' : i = xs.length := by omega
    subst e'
    rw [List.drop_length] at hc
    refine .inl ⟨wk.stops H2 n2.hh, hp acc us L F2 H2 hc (n1.trans n2) (none_of_same n1.hh hL) f2 h2 r2⟩
end
section
variable {X : Cx} {elt tg iter tg1 iter1 : Expr} {ifs ifs1 : List Expr} {scope : Scope} {own : List (Str × Nat)} {vs1 : List Nat} {pos spos py : Pos} {tj j1 : TXJ} {c c1 : CT} {tt tt1 : TXT} {te : TX}
theorem pxs_setLc2 {i : Nat} {y : Str} (hc : X.calm = true) (hN : X.N.Nodup) (hy : X.N[i]? = some y) (hyl : X.env.scope.names.lookup y = some .local)
    (hsw : swapsWith (.ListComp elt [⟨tg, iter, ifs, 0⟩, ⟨tg1, iter1, ifs1, 0⟩] scope pos) (some (.Name y py)) spos.line X.env = pure true) (hi : PXJ X tg iter tj) (ok : BlkOk X.N X.env.scope scope own) (hv : ∀ i ∈ c.ixs, i ∈ own.map (·.2)) (hv1 : ∀ i ∈ c1.ixs, i ∈ vs1) (hvo : ∀ i ∈ vs1, i ∈ own.map (·.2))
    (hg : ∀ (s : Shared) (H : Hp) (C : Addr) (cl : List (Str × Addr)) (fp : List Addr), PG (X.blk s H scope (compEnvC scope cl C X.env) fp) tg (c.raw X.K))
    (ht : ∀ (s : Shared) (H : Hp) (C : Addr) (cl : List (Str × Addr)) (fp : List Addr), PXTs (X.blk s H scope (compEnvC scope cl C X.env) fp) ifs tt)
    (hi1 : ∀ (s : Shared) (H : Hp) (C : Addr) (cl : List (Str × Addr)) (fp : List Addr), PXJ0 (X.blk s H scope (compEnvC scope cl C X.env) fp) tg1 iter1 j1)
    (hg1 : ∀ (s : Shared) (H : Hp) (C : Addr) (cl : List (Str × Addr)) (fp : List Addr), PG (X.blk s H scope (compEnvC scope cl C X.env) fp) tg1 (c1.raw X.K))
    (ht1 : ∀ (s : Shared) (H : Hp) (C : Addr) (cl : List (Str × Addr)) (fp : List Addr), PXTs (X.blk s H scope (compEnvC scope cl C X.env) fp) ifs1 tt1)
    (he : ∀ (s : Shared) (H : Hp) (C : Addr) (cl : List (Str × Addr)) (fp : List Addr), PX (X.blk s H scope (compEnvC scope cl C X.env) fp) elt te) (hs : ∀ x, foldedSetIterable iter X.env x = pure x := by intro _; rfl) (hs1 : ∀ env x, foldedSetIterable iter1 env x = pure x := by intro _ _; rfl) :
    PXS X (.Assign [.Name y py] (.ListComp elt [⟨tg, iter, ifs, 0⟩, ⟨tg1, iter1, ifs1, 0⟩] scope pos) spos) (sSetF i (fLc2 tj c tt j1 c1 tt1 te (own.map (·.2)) vs1)) := PS.weak (ps_setLc2 hc hN hy hyl hsw hi ok hvo hg ht hi1 hg1 ht1 he hs hs1) fun Z σ H ⟨G, F, ρ, D', R, h1, e⟩ =>
  lift_lc2 hv hv1 σ H _ ⟨G, F, ρ, _, R, h1, fun xs vs p F' H' hx n hp fp hv' r => e.nx F' _ _ H' hx (n.gr R.gh) ((R.nw n).setO i ⟨p, vs, rfl, none_of_same R.gh hp, fp, hv', r⟩ (R.fresh hp))⟩
end
end PL
end

section
set_option Elab.async false
set_option linter.all false
set_option maxRecDepth 100000
set_option maxHeartbeats 2000000
namespace PL
open PySem PySem.Spec PyProof.Rows L2
theorem cut_one (xs : List V) : cutV xs (some 1) none = xs.drop 1 := by
  cases xs with
  | nil => rfl
  | cons x xs =>
    unfold cutV HT.sIx
    simp
theorem cut_init (xs : List V) : cutV xs none (some (-1)) = xs.dropLast := by
  unfold cutV HT.sIx
  simp [List.dropLast_eq_take]
  congr 1
  omega
def tailD (x : D) (k : D → Prop) : Prop := match x with | .tup xs => k (.tup (xs.drop 1)) | _ => False
def xTail (t : TX) : TX := fun ρ k => t ρ fun x => tailD x k
def fInit (t : TXR) : PEnv → (List D → Prop) → Prop := fun ρ k => t ρ fun x => match x.dat with | .lst xs => k xs.dropLast | _ => False
section
variable {X : Cx} {e : Expr} {te : TX} {tr : TXR} {pos p p1 p2 : Pos} {k : Nat}
theorem px_tail (h : PX X e te) : PX X (.Subscript e (.Slice (some (.Constant (.int 1) k p1)) none none p) pos) (xTail te) := PE.weak (pe_slice sl_tupA h (po_some pe_int) po_none) fun σ H Q ⟨G, F, ρ, k, R, ht, hp⟩ => ⟨G, F, ρ, _, R, ht, fun x v F' H' hx n r => by
  cases x <;> try exact hx.elim
  case tup xs =>
    cases r with
    | @tup a vs ds h1 h2 =>
      refine ⟨1, rfl, a, vs, rfl, Same.sqT n.fh h1, fun hw => ?_, fun hw q hq => ?_⟩
      · have e : vs = [] := by
          have := hw.1
          cases vs with
          | nil => rfl
          | cons _ _ => exfalso; revert this; unfold HT.sIx; simp
        subst e
        cases h2
        exact hp _ _ F' H' hx n (.tup h1 .nil)
      · rw [cut_one]
        exact post_tup (fun x v F2 H2 a b c => hp x v F2 H2 a (n.trans b) c) n.fh hx (RpA.drop 1 h2) hq⟩
theorem pf_init (h : PR X e tr) : PF X (.Subscript e (.Slice none (some (.UnaryOp .USub (.Constant (.int 1) k p1) p2)) none p) pos) (fInit tr) := PE.weak (pe_slice sl_list h po_none (po_some (pe_un un_neg pe_int))) fun σ H Q ⟨G, F, ρ, k, R, ht, hp⟩ => ⟨G, F, ρ, _, R, ht, fun pv v F' H' hx n r => by
  generalize e : pv.dat = d at hx
  cases d <;> try exact hx.elim
  case lst xs =>
    obtain ⟨q, vs, rfl, h1, h2⟩ := r.lst e n.fh
    refine ⟨1, rfl, -1, rfl, q, vs, rfl, SqL.of h1, fun p hp0 => ?_⟩
    rw [cut_init]
    refine hp _ _ p F' _ hx (n.trans (.own n.fh hp0)) (none_of_same n.hh hp0) (none_of_same n.fh hp0) upd_same ?_
    rw [List.dropLast_eq_take, List.dropLast_eq_take, h2.length]
    exact RpA.take _ h2⟩
end
end PL
end

section
set_option Elab.async false
set_option linter.all false
set_option maxRecDepth 100000
set_option maxHeartbeats 4000000
namespace PL
open PySem PySem.Spec PyProof.Rows L2
section
variable {P : Program} {w : World} {A : Around} {E : Value → Shared → Prop} {s : Shared}
/-- a set as it is born -/
abbrev born (w : World) : Obj := { cls := .type "set", dict := none, data := .set #[] 0 (.fresh 0 0 (!w.params.followText "set-order")) }
theorem set_listI {l : Addr} {xs : Array Value} (ns : List Int) {Q : Value → Shared → Prop} (hh : A.handled = none) (hl : s.heap.IsList l xs) (hx : IntsAre xs.toList ns) (hb : ns.length + 1 < scanBound)
    (h : ∀ (g : Heap) (tk c : Nat), SetR w g s.heap.objs.size (fun j => decide (j ∈ ns)) c → c ≤ ns.length → (∀ b o, s.heap.get? b = some o → g.get? b = some o) → Q (.ref s.heap.objs.size) { s with heap := g, toks := tk }) :
    wpAny (model P w) A (call (.type "set") [.ref l]) Q E s := by
  have sz : xs.size = ns.length := by have q := IntsAre.length hx; rw [Array.length_toList] at q; exact q
  obtain ⟨_, _, _⟩ := F.called_set.mro
  have z1 := F.called_set.made; have z2 := F.called_set.sub; have z3 := F.called_set.notType; have z4 := F.called_set.canCreate; have z5 := F.typeCall_set_1 (.ref l)
  refine wpAny_call (codeAny_of_tree (?_ : wpAny _ _ (callAny (.type "set") _) _ _ _))
  refine wpAny_pure ⟨Code.quiet_builtin _ (by decide +kernel), codeAny_builtin F.entry_type_call (by
    rw [Around.under_plain (weight_type_call_type "set" [.ref l] []) rfl]
    repeat (any_goals first | assumption | wp_step)
    refine codeAny_mono (code_set_led1 (.ref l) (E := E) (Q₁ := fun ob t => ob = .ref s.heap.objs.size ∧ t = { s with heap := s.heap.push (born w) }) ⟨rfl, rfl⟩) fun r t hr => ?_
    cases r with
    | error e => exact hr
    | ok fl =>
      cases fl with
      | ret ob =>
        obtain ⟨rfl, rfl⟩ := hr
        have gS : (s.heap.push (born w)).get? s.heap.objs.size = some (born w) := Heap.get?_push_size _ rfl
        have ty : Shared.TypeIs { s with heap := s.heap.push (born w) } (.ref s.heap.objs.size) "set" := ⟨_, gS, rfl⟩
        have z6 := F.called_set.init.lookup; have z7 := F.called_set.init.bind (.ref s.heap.objs.size)
        repeat (any_goals first | assumption | wp_step)
        refine codeAny_mono (codeAny_call_builtin (R := wants (fun r t2 => r = .none ∧ ∃ g tk c, t2 = { s with heap := g, toks := tk } ∧ SetR w g s.heap.objs.size (fun j => decide (j ∈ ns)) c ∧ c ≤ ns.length ∧ (∀ b o, s.heap.get? b = some o → g.get? b = some o)) E)
          F.called_set.init.plain F.entry_set_init (check_set_init_1 ty ?_)) fun r2 t2 hr2 => ?_
        · obtain ⟨⟨oc, od, oda, os⟩, ho, hc, nl, hd⟩ := hl
          dsimp only at hc hd
          subst hc hd
          have go : (s.heap.push (born w)).get? l = some { cls := .type "list", dict := od, data := .seq xs nl, slots := os } := Heap.get?_push_of_some _ ho
          have z8 := F.sub_list_set; have z9 := F.sub_list_frozenset
          have z10 : (Value.type "list" == Value.type "dict") = false := by decide
          have isl : (s.heap.push (born w)).IsList l xs := ⟨_, go, rfl, nl, rfl⟩
          unfold Builtin.«set.__init__» noKeywords Builtin.Frozenset.updateFrom
          generalize hPI : pyIter = PI
          wp_walk
          subst hPI
          refine wpAny_pyIter_list isl (wpAny_bind (wpAny_runValue ?_))
          have lt : l < s.heap.objs.size := Heap.lt_size ho
          have noh : A.in1.in1.in1.handled = none := by simp [hh]
          have ne1 : l ≠ (s.heap.push (born w)).objs.size := by rw [Heap.size_push]; exact Nat.ne_of_lt (Nat.lt_succ_of_lt lt)
          have out : s.heap.objs.size ∉ [(s.heap.push (born w)).objs.size, l] := by
            rw [Heap.size_push]; intro q
            rcases List.mem_cons.mp q with q | q
            · exact Nat.ne_of_lt (Nat.lt_succ_self _) q
            · rw [List.mem_singleton] at q; exact Nat.ne_of_gt lt q
          have val : ∀ (i : Nat) (v : Value), xs[i]? = some v → ∃ k t, ns[i]? = some k ∧ v = .int k t := fun i v hv => by
            have hi : i < ns.length := by rw [← sz]; exact (Array.getElem?_eq_some_iff.mp hv).1
            obtain ⟨t, e⟩ := PyProof.Rows.IntsAre.int_at hx i v (by rw [Array.getElem?_toList]; exact hv)
            exact ⟨ns[i], t, List.getElem?_eq_getElem hi, by rw [e, List.getD_eq_getElem?_getD, List.getElem?_eq_getElem hi] <;> rfl⟩
          have get0 : ((s.heap.push (born w)).push { cls := .type "list_iterator", data := .fields #[.ref l, .int 0 0] }).get? s.heap.objs.size = some (born w) := Heap.get?_push_of_some _ gS
          refine set_update_ints ((Walks.list noh _ l ne1 xs).toS) s.heap.objs.size out ns sz hb val (xs.size - 0) 0 _ (by omega) (Nat.zero_le _) ⟨⟨_, Heap.get?_push_size _ rfl, rfl, rfl⟩, (isl.push _)⟩ ⟨0, Nat.le_refl 0, setR_new_at get0⟩ fun t3 c3 mv hc3 hS => ?_
          obtain ⟨g3, gn3, d3, tk3, o3⟩ := t3
          have e1 : gn3 = s.gens := mv.gens
          have e2 : d3 = s.drawn := mv.drawn
          have e3 : o3 = s.os := mv.os
          subst e1 e2 e3
          show wpAny _ _ _ _ _ _; refine wpAny_pure ?_
          show wpAny _ _ (ret Value.none) _ _ _; skip
          rw [sz] at hc3
          refine wpAny_pure ⟨rfl, g3, tk3, c3, rfl, hS, hc3, fun b o e => ?_⟩
          have hb0 : b < s.heap.objs.size := Heap.lt_size e
          have q0 : b ∉ [s.heap.objs.size, (s.heap.push (born w)).objs.size] := by
            rw [Heap.size_push]; intro q
            rcases List.mem_cons.mp q with q | q
            · exact Nat.ne_of_lt hb0 q
            · rw [List.mem_singleton] at q; exact Nat.ne_of_lt (Nat.lt_succ_of_lt hb0) q
          exact mv.heap b o q0 (Heap.get?_push_of_some _ (Heap.get?_push_of_some _ e))
        · cases r2 with
          | error e => exact hr2
          | ok fl2 =>
            cases fl2 with
            | ret r =>
              obtain ⟨rfl, g, tk, c, rfl, hS, hc, hk⟩ := hr2
              repeat (any_goals first | assumption | wp_step)
              exact h _ _ _ hS hc hk
            | _ => exact hr2.elim
      | _ => exact hr.elim)⟩
end
end PL
end

section
set_option Elab.async false
set_option linter.all false
set_option maxRecDepth 100000
set_option maxHeartbeats 2000000
namespace PL
open PySem PySem.Spec PyProof.Rows L2
/-- each once -/
def ddp : List Int → List Int
  | [] => []
  | x :: xs => if x ∈ ddp xs then ddp xs else x :: ddp xs
theorem ddp_mem {k : Int} : ∀ {xs : List Int}, k ∈ ddp xs ↔ k ∈ xs
  | [] => Iff.rfl
  | x :: xs => by
    unfold ddp
    split
    · rename_i h
      rw [ddp_mem, List.mem_cons]
      refine ⟨.inr, fun q => ?_⟩
      rcases q with q | q
      · subst q; exact ddp_mem.mp h
      · exact q
    · rw [List.mem_cons, List.mem_cons, ddp_mem]
theorem ddp_nodup : ∀ xs : List Int, (ddp xs).Nodup
  | [] => List.nodup_nil
  | x :: xs => by
    unfold ddp
    split
    · exact ddp_nodup xs
    · exact List.nodup_cons.mpr ⟨by assumption, ddp_nodup xs⟩
theorem same_len {a b : List Int} (ha : a.Nodup) (hb : b.Nodup) (h : ∀ k, k ∈ a ↔ k ∈ b) : a.length = b.length :=
  (((List.perm_ext_iff_of_nodup ha hb).mpr h)).length_eq
/-- put in its place, once -/
def ins1 (x : Int) : List Int → List Int
  | [] => [x]
  | y :: ys => if x < y then x :: y :: ys else if x = y then y :: ys else y :: ins1 x ys
def srt : List Int → List Int
  | [] => []
  | x :: xs => ins1 x (srt xs)
theorem ins1_mem {k x : Int} : ∀ {ys : List Int}, k ∈ ins1 x ys ↔ k = x ∨ k ∈ ys
  | [] => by simp [ins1]
  | y :: ys => by
    unfold ins1
    split
    · simp
    · split
      · subst_vars; simp
      · rw [List.mem_cons, ins1_mem, List.mem_cons]
        constructor <;> (intro h; rcases h with h | h | h <;> simp [h])
theorem ins1_up {x : Int} : ∀ {ys : List Int}, ys.Pairwise (· < ·) → (ins1 x ys).Pairwise (· < ·)
  | [], _ => by simp [ins1]
  | y :: ys, h => by
    unfold ins1
    rw [List.pairwise_cons] at h
    split
    · refine List.pairwise_cons.mpr ⟨fun z hz => ?_, List.pairwise_cons.mpr h⟩
      rcases List.mem_cons.mp hz with q | q
      · subst q; assumption
      · have := h.1 z q; omega
    · split
      · exact List.pairwise_cons.mpr h
      · refine List.pairwise_cons.mpr ⟨fun z hz => ?_, ins1_up h.2⟩
        rcases ins1_mem.mp hz with q | q
        · omega
        · exact h.1 z q
theorem srt_mem {k : Int} : ∀ {xs : List Int}, k ∈ srt xs ↔ k ∈ xs
  | [] => Iff.rfl
  | x :: xs => by rw [srt, ins1_mem, srt_mem, List.mem_cons]
theorem srt_up : ∀ xs : List Int, (srt xs).Pairwise (· < ·)
  | [] => List.Pairwise.nil
  | x :: xs => ins1_up (srt_up xs)
theorem up_ext : ∀ {a b : List Int}, a.Pairwise (· < ·) → b.Pairwise (· < ·) → (∀ k, k ∈ a ↔ k ∈ b) → a = b
  | [], [], _, _, _ => rfl
  | [], y :: _, _, _, h => absurd ((h y).mpr (List.mem_cons_self ..)) (by simp)
  | x :: _, [], _, _, h => absurd ((h x).mp (List.mem_cons_self ..)) (by simp)
  | x :: a, y :: b, ha, hb, h => by
    rw [List.pairwise_cons] at ha hb
    have e : x = y := by
      rcases List.mem_cons.mp ((h x).mp (List.mem_cons_self ..)) with q | q
      · exact q
      · rcases List.mem_cons.mp ((h y).mpr (List.mem_cons_self ..)) with r | r
        · exact r.symm
        · have := hb.1 x q
          have := ha.1 y r
          omega
    subst e
    rw [up_ext ha.2 hb.2 fun k => ?_]
    constructor
    · intro q
      rcases List.mem_cons.mp ((h k).mp (List.mem_cons_of_mem _ q)) with r | r
      · subst r; exact absurd (ha.1 _ q) (by omega)
      · exact r
    · intro q
      rcases List.mem_cons.mp ((h k).mpr (List.mem_cons_of_mem _ q)) with r | r
      · subst r; exact absurd (hb.1 _ q) (by omega)
      · exact r
/-- set(xs) of a list or tuple of ints -/
def rSetI (K : PySem.W.Frag) (w : World) : List V → Hp → VK → Prop := fun vs H Q => ∃ (a : Addr) (ns : List Int), vs = [.ref a] ∧ (SqL K H a (ns.map V.int) ∨ SqT K H a (ns.map V.int)) ∧ ns.length ≤ 1000 ∧
  ∀ p, H p = none → Q (.ref p) (upd H p (SetO w p (fun j => decide (j ∈ ns)) (ddp ns).length))
section
variable {X : Cx}
theorem cr_setI (hc : X.calm = true) : CallR X (.type "set") (rSetI X.K X.w) := by
  intro pins s σ H vs us Q I r h
  obtain ⟨a, ns, rfl, hs, hl, q⟩ := h
  rw [Vals.ref1 r]
  have fin : ∀ (g : Heap) (tk c : Nat), SetR X.w g s.heap.objs.size (fun j => decide (j ∈ ns)) c → c ≤ ns.length → (∀ b o, s.heap.get? b = some o → g.get? b = some o) → EP X pins σ Q (.ref s.heap.objs.size) { s with heap := g, toks := tk } := fun g tk c R hcn k => by
    have ec : c = (ddp ns).length := by
      obtain ⟨o, es, ep, t, h1, h2, h3, h4, h5, h6, h7, h8, h9, h10⟩ := R
      rw [← h9]
      have := same_len h5 (ddp_nodup ns) fun j => by rw [← h6 j, decide_eq_true_eq, ddp_mem]
      rw [List.length_map, Array.length_toList] at this
      exact this
    subst ec
    have hn : H s.heap.objs.size = none := I.hok.fresh (Nat.le_refl _)
    exact ⟨.ref _, _, I.laid (t' := tk) (o := SetO X.w s.heap.objs.size (fun j => decide (j ∈ ns)) (ddp ns).length) k (Nat.le_refl _) (setO_new R), rfl, q _ hn⟩
  rcases hs with hs | hs
  · obtain ⟨its, rv, ht, hz⟩ := I.list hs
    exact set_listI ns (I.ok.hd hc) ht.isList rv.ints (by unfold scanBound; omega) fin
  · obtain ⟨its, rv, ht, hz⟩ := I.tuple hs
    exact call_set_tupI ns (I.ok.hd hc) (show s.heap.IsTuple a its.toArray from ht) (ints_of_vals rv) (by unfold scanBound; omega) fin
end

/-- a list or tuple of ints -/
def intSeq (x : D) (k : List Int → Prop) : Prop := match seqOf x with
  | some ds => (match intsD ds with | some ns => k ns | none => False)
  | none => False
theorem intSeq_some {x : D} {k : List Int → Prop} (h : intSeq x k) : ∃ ns, seqOf x = some (ns.map D.int) ∧ k ns := by
  unfold intSeq at h
  split at h
  · rename_i ds e
    split at h
    · rename_i ns e2
      exact ⟨ns, by rw [e, intsD_map e2], h⟩
    · exact h.elim
  · exact h.elim
@[simp] theorem intSeq_lst (ns : List Int) (k : List Int → Prop) : intSeq (.lst (ns.map D.int)) k = k ns := by simp [intSeq, seqOf]
@[simp] theorem intSeq_tup (ns : List Int) (k : List Int → Prop) : intSeq (.tup (ns.map D.int)) k = k ns := by simp [intSeq, seqOf]
theorem Rd1.ints {K : PySem.W.Frag} {w : World} {F H : Hp} {v : V} {pv : PV} {ns : List Int} (r : Rd1 K w F H v pv) (fh : Same F H) (e : seqOf pv.dat = some (ns.map D.int)) : ∃ a, v = .ref a ∧ (SqL K H a (ns.map V.int) ∨ SqT K H a (ns.map V.int)) := by
  generalize q : pv.dat = d at e
  cases d <;> try (cases e; done)
  case lst ds =>
    cases e
    obtain ⟨p, vs, rfl, h1, h2⟩ := r.lst q fh
    rw [h2.ints] at h1
    exact ⟨p, rfl, .inl (SqL.of h1)⟩
  case tup ds =>
    cases e
    obtain ⟨p, vs, rfl, _, h1, h2⟩ := r.tup q fh
    rw [h2.ints] at h1
    exact ⟨p, rfl, .inr h1⟩
def rLenSet (w : World) : List V → Hp → VK → Prop := fun vs H Q => ∃ (a : Addr) (S : Int → Bool) (n : Nat), vs = [V.ref a] ∧ H a = some (SetO w a S n) ∧ Q (.int (n : Nat)) H
section
variable {X : Cx}
theorem cr_lenSet : CallR X (.builtin "len") (rLenSet X.w) := by
  intro pins s σ H vs us Q I r h
  obtain ⟨a, S, n, rfl, ha, q⟩ := h
  rw [Vals.ref1 r]
  obtain ⟨o, es, ep, t, h1, h2, h3, h4, h5, h6, h7, h8, h9, h10⟩ := setO_get I ha
  exact call_len_set h1 h2 h3 h8 (by unfold scanBound at h7; omega) ⟨.int n, H, I.tok _, ⟨_, by rw [h9]⟩, q⟩
end
def xLenSet (tr : TXR) : TX := fun ρ k => tr ρ fun x => intSeq x.dat fun ns => ns.length ≤ 1000 ∧ k (.int ((ddp ns).length : Nat))
def fSortedSet (tr : TXR) : PEnv → (List D → Prop) → Prop := fun ρ k => tr ρ fun x => intSeq x.dat fun ns => ns.length < 64 ∧ k ((srt ns).map D.int)
theorem ddp_le : ∀ xs : List Int, (ddp xs).length ≤ xs.length
  | [] => Nat.le_refl _
  | x :: xs => by
    unfold ddp
    have := ddp_le xs
    split
    · simp; omega
    · simp; omega
section
variable {X : Cx} {a : Expr} {tr : TXR} {p p2 q pos : Pos}
theorem px_lenSet (hc : X.calm = true) (hg : Gl X "len") (hm : X.mg "len" = none) (hg2 : Gl X "set") (hm2 : X.mg "set" = none) (ha : PR X a tr) (h1 : starEach [a] X.env = (false, eval a X.env) :: starEach [] X.env := by rfl)
    (h2 : starEach [.Call (.Name "set" p2) [a] [] q] X.env = (false, eval (.Call (.Name "set" p2) [a] [] q) X.env) :: starEach [] X.env := by rfl) (h3 : (backTo q (starEach [] X.env)).any (·.1) = false := by rfl) (h4 : (backTo pos (starEach [] X.env)).any (·.1) = false := by rfl) :
    PX X (.Call (.Name "len" p) [.Call (.Name "set" p2) [a] [] q] [] pos) (xLenSet tr) :=
  PE.weak (pe_callB cr_lenSet hg hm boot_len (pa_cons (pe_callTy (cr_setI hc) hg2 hm2 boot_set (pa_cons ha pa_nil h1) (by decide) (by decide) h1 h3) pa_nil h2) (by decide) (by decide) h2 h4) fun σ H Q ⟨G, F, ρ, k, R, ht, hp⟩ => by
    refine ⟨G, F, ρ, _, R, ht, fun pv v F' H' hx n r => ?_⟩
    obtain ⟨ns, e, hl, hk⟩ := intSeq_some hx
    obtain ⟨a, rfl, hs⟩ := r.ints n.fh e
    refine ⟨a, ns, rfl, hs, hl, fun p hp0 => ⟨p, _, _, rfl, upd_same, ?_⟩⟩
    exact hp _ _ F' _ hk (n.trans (.own n.fh hp0)) (.int _)
theorem pf_sortedSet (hc : X.calm = true) (hg : Gl X "sorted") (hm : X.mg "sorted" = none) (hg2 : Gl X "set") (hm2 : X.mg "set" = none) (ha : PR X a tr) (h1 : starEach [a] X.env = (false, eval a X.env) :: starEach [] X.env := by rfl)
    (h2 : starEach [.Call (.Name "set" p2) [a] [] q] X.env = (false, eval (.Call (.Name "set" p2) [a] [] q) X.env) :: starEach [] X.env := by rfl) (h3 : (backTo q (starEach [] X.env)).any (·.1) = false := by rfl) (h4 : (backTo pos (starEach [] X.env)).any (·.1) = false := by rfl) :
    PF X (.Call (.Name "sorted" p) [.Call (.Name "set" p2) [a] [] q] [] pos) (fSortedSet tr) :=
  PE.weak (pe_callB (cr_sortedSet hc) hg hm boot_sorted (pa_cons (pe_callTy (cr_setI hc) hg2 hm2 boot_set (pa_cons ha pa_nil h1) (by decide) (by decide) h1 h3) pa_nil h2) (by decide) (by decide) h2 h4) fun σ H Q ⟨G, F, ρ, k, R, ht, hp⟩ => by
    refine ⟨G, F, ρ, _, R, ht, fun pv v F' H' hx n r => ?_⟩
    obtain ⟨ns, e, hl, hk⟩ := intSeq_some hx
    obtain ⟨a, rfl, hs⟩ := r.ints n.fh e
    refine ⟨a, ns, rfl, hs, by omega, fun p hp0 => ⟨p, _, _, rfl, upd_same, by have := ddp_le ns; omega, fun ms p2 up mem _ hp2 => ?_⟩⟩
    have em : ms = srt ns := up_ext up (srt_up ns) fun k => by rw [mem k, srt_mem, decide_eq_true_eq]
    subst em
    have n2 := n.trans (.own (o := SetO X.w p (fun j => decide (j ∈ ns)) (ddp ns).length) n.fh hp0)
    have fp2 : F' p2 = none := none_of_same n2.fh hp2
    exact hp _ _ p2 F' _ hk (n2.trans (.own n2.fh hp2)) (none_of_same n2.hh hp2) fp2 upd_same (RpA.of_ints _)
end
def strsD : List D → Option (List Str)
  | [] => some []
  | .str x :: ds => (match strsD ds with | some xs => some (x :: xs) | none => none)
  | _ => none
theorem strsD_map : ∀ {ds : List D} {xs : List Str}, strsD ds = some xs → ds = xs.map D.str
  | [], xs, e => by cases e; rfl
  | d :: ds, xs, e => by
    cases d <;> try (cases e; done)
    case str x =>
      unfold strsD at e
      cases q : strsD ds with
      | none => rw [q] at e; cases e
      | some ys => rw [q] at e; cases e; rw [strsD_map q]; rfl
@[simp] theorem strsD_strs (xs : List Str) : strsD (xs.map D.str) = some xs := by
  induction xs with
  | nil => rfl
  | cons x xs ih =>
    show (match strsD (xs.map D.str) with | some ys => some (x :: ys) | none => none) = _
    rw [ih]
def fSortedS (tr : TXR) : PEnv → (List D → Prop) → Prop := fun ρ k => tr ρ fun x => match x.dat with
  | .lst ds => (match strsD ds with | some xs => xs.length < 64 ∧ ∀ ys : List Str, ys.Perm xs → sortedS ys = true → k (ys.map D.str) | none => False)
  | _ => False
section
variable {X : Cx} {a : Expr} {tr : TXR} {p p2 q pos : Pos}
theorem pf_sortedS (hg : Gl X "sorted") (hm : X.mg "sorted" = none) (ha : PR X a tr) (h1 : starEach [a] X.env = (false, eval a X.env) :: starEach [] X.env := by rfl) (h4 : (backTo pos (starEach [] X.env)).any (·.1) = false := by rfl) :
    PF X (.Call (.Name "sorted" p) [a] [] pos) (fSortedS tr) :=
  PE.weak (pe_callB cr_sortedS hg hm boot_sorted (pa_cons ha pa_nil h1) (by decide) (by decide) h1 h4) fun σ H Q ⟨G, F, ρ, k, R, ht, hp⟩ => by
    refine ⟨G, F, ρ, _, R, ht, fun pv v F' H' hx n r => ?_⟩
    generalize e : pv.dat = d at hx
    cases d <;> try exact hx.elim
    case lst ds =>
      dsimp only at hx
      split at hx
      · rename_i xs ex
        obtain ⟨p, vs, rfl, h1, h2⟩ := r.lst e n.fh
        rw [strsD_map ex] at h2
        rw [h2.strs] at h1
        refine ⟨p, xs, rfl, SqL.of h1, hx.1, fun ys p2 pe so hp2 => ?_⟩
        exact hp _ _ p2 F' _ (hx.2 ys pe so) (n.trans (.own n.fh hp2)) (none_of_same n.hh hp2) (none_of_same n.fh hp2) upd_same (RpA.of_strs _)
      · exact hx.elim
end
end PL
end

section
set_option Elab.async false
set_option linter.all false
set_option maxRecDepth 100000
set_option maxHeartbeats 2000000
namespace PL
open PySem PySem.Spec PyProof.Rows L2
section
variable {X : Cx}
abbrev OnBlk (X : Cx) (scope : Scope) (φ : Cx → Prop) : Prop := ∀ (s : Shared) (H : Hp) (C : Addr) (cl : List (Str × Addr)) (fp : List Addr), φ (X.blk s H scope (compEnvC scope cl C X.env) fp)
theorem swD_true {kx vx : Expr} {gs : List Comprehension} {scope : Scope} {pos py : Pos} {y : Str} {l : Nat} {env : Env} (hk : env.scope.kind = .function) (hy : env.scope.names.lookup y = some .local) (hl : (py.line == pos.line) = true)
    (ha : (scope.names.any fun (n, k) => n == y && (k == .local || k == .cell)) = false) : swapsWith (.DictComp kx vx gs scope pos) (some (.Name y py)) l env = pure true := by
  have k1 : env.kindOf y = some .local := hy
  have k2 : env.blockKind = .function := by unfold Env.blockKind; rw [hk]; rfl
  unfold swapsWith; simp only [k2, k1, ha, Expr.pos, hl]; rfl
theorem ps_setDc {i : Nat} {y : Str} {py : Pos} {kx vx tg iter : Expr} {ifs : List Expr} {scope : Scope} {own : List (Str × Nat)} {pos spos : Pos} {wi : TI} {g : TG} {tt : TT} {tk tv : TE} (hc : X.calm = true) (hN : X.N.Nodup) (hy : X.N[i]? = some y) (hyl : X.env.scope.names.lookup y = some .local)
    (hsw : swapsWith (.DictComp kx vx [⟨tg, iter, ifs, 0⟩] scope pos) (some (.Name y py)) spos.line X.env = pure true) (hi : PI X tg iter wi) (ok : BlkOk X.N X.env.scope scope own)
    (hg : OnBlk X scope fun B => PG B tg g) (ht : OnBlk X scope fun B => PTs B ifs tt) (hk : OnBlk X scope fun B => PE B kx tk) (he : OnBlk X scope fun B => PE B vx tv) (hs : ∀ x, foldedSetIterable iter X.env x = pure x := by intro _; rfl) :
    PS X (.Assign [.Name y py] (.DictComp kx vx [⟨tg, iter, ifs, 0⟩] scope pos) spos) (tAsg (tDc wi g tt tk tv (own.map (·.2))) (gName i)) := ⟨fun pins s σ H D I h => by
  rw [exec_Assign_Name_used _ _ _ _ hsw]
  refine wpAny_bind (wpAny_standAt (wpAny_bind (?_ : wpAny _ X.A (do let _ ← comprehension (.DictComp kx vx [⟨tg, iter, ifs, 0⟩] scope pos) scope X.env (firstIterPos [⟨tg, iter, ifs, 0⟩] pos) newDict false (eval iter X.env) (some (assign (.Name y py) X.env))) _ _ _)))
  refine wpAny_bind (thn (dc_core (Q := fun x H1 => gName i x σ H1 D.nx) (Qf := fun _ s' => SP X pins D .next s') hc hN I hi ok hg ht hk he hs h fun L C s' m H' I' q hn f => ?_) fun _ s' hq => wpAny_pure (wpAny_pure hq))
  refine (wpAny_assign_Name (store_ok2 (v := V.ref L) I' hN hy (.inl hyl) rfl (fun s2 I2 ⟨a, sb, ha⟩ => ?_) (.inr hyl)) : wpAny _ _ (assign (.Name y py) X.env (.ref L)) _ _ _)
  have ne : C ≠ a := ha.elim (fun z => by rw [z]; exact f.2.1) fun z e => f.2.2.2.2.1 y a z e.symm
  exact ⟨m, hn.sameBut sb ne, fun h3 sb3 => ⟨_, H', I2.turned (t' := s2.toks) (fun b o hb e => (sb3.2 b hb).trans e) f.1 f.2.1 f.2.2.2.1 f.2.2.2.2.1 f.2.2.2.2.2, q⟩⟩⟩
end
def compDP (c : CT) (tk tv : TX) (ρ : PEnv) (k : List Str → List D → Prop) : List D → List Str → List D → Prop
  | [], ks, us => k ks us
  | x :: xs, ks, us => c.bind x ρ fun ρ2 => tk ρ2 fun y => tv ρ2 fun z => match y with
    | .str n => n ∉ ks ∧ Sm (ks.length + 1) ∧ compDP c tk tv ρ k xs (ks ++ [n]) (us ++ [z])
    | _ => False
def sSetDc (i : Nat) (tj : TXJ) (c : CT) (tk tv : TX) (vs : List Nat) : TXS := fun D ρ => tj ρ fun xs => compDP c tk tv (wipeP ρ vs) (fun ks us => D.nx (ρ.set i (some (.d (.dik ks us))))) xs [] []
theorem put_new {kvs : List (Key × V)} {ks : List Str} {n : Str} {v : V} (e : kvs.map (·.1) = ks.map Sum.inr) (h : n ∉ ks) : putK kvs (Sum.inr n) v = kvs ++ [(Sum.inr n, v)] := by
  unfold putK
  rw [if_neg]
  intro q
  rw [List.any_eq_true] at q
  obtain ⟨p, hp, e2⟩ := q
  have e2 := of_decide_eq_true e2
  have : (Sum.inr n : Key) ∈ kvs.map (·.1) := List.mem_map.mpr ⟨p, hp, e2⟩
  rw [e] at this
  obtain ⟨m, hm, e3⟩ := List.mem_map.mp this
  cases e3
  exact h hm
section
variable {K : PySem.W.Frag} {w : World}
theorem liftS_dc {i : Nat} {tj : TXJ} {c : CT} {tk tv : TX} {vs : List Nat} (hv : ∀ i ∈ c.ixs, i ∈ vs) (Z : Ends) (σ : L2.St) (H : Hp) (h : liftS K w (sSetDc i tj c tk tv vs) Z σ H) :
    tAsg (tDc (liftJ K w tj) (c.raw K) tYes (liftE K w tk) (liftE K w tv) vs) (gName i) Z σ H := by
  obtain ⟨G, F, ρ, D', R, ht, e⟩ := h
  refine ⟨G, F, ρ, _, R, ht, fun xs F1 H1 J hx n1 wk => ?_⟩
  intro L hL
  have fL : F1 L = none := none_of_same n1.fh hL
  refine ⟨fun i m H2 => m = xs.length - i ∧ i ≤ xs.length ∧ ∃ F2 kvs ks us, Nw F1 H1 F2 H2 ∧ F2 L = none ∧ H2 L = some (.dK kvs) ∧ kvs.map (·.1) = ks.map Sum.inr ∧ RpA K w F2 (kvs.map fun q => q.2) us ∧ compDP c tk tv (wipeP ρ vs) _ (xs.drop i) ks us,
    ⟨xs.length, by simp, Nat.zero_le _, F1, [], [], [], .own n1.fh hL, fL, upd_same, rfl, .nil, by simpa using hx⟩, ?_⟩
  rintro j m H2 ⟨rfl, hi, F2, kvs, ks, us, n2, f2, h2, ke, r2, hc⟩
  by_cases hlt : j < xs.length
  · refine .inr ⟨wk.goes j H2 hlt n2.hh, fun H3 => ∃ F3 kvs ks us, Nw F1 H1 F3 H3 ∧ F3 L = none ∧ H3 L = some (.dK kvs) ∧ kvs.map (·.1) = ks.map Sum.inr ∧ RpA K w F3 (kvs.map fun q => q.2) us ∧ compDP c tk tv (wipeP ρ vs) _ (xs.drop (j + 1)) ks us, fun H3 q => ⟨xs.length - (j + 1), by omega, rfl, hlt, q⟩, fun v H3 hy => ?_⟩
    obtain ⟨x, hxi⟩ : ∃ x, xs[j]? = some x := ⟨xs[j], by simp [hlt]⟩
    obtain ⟨F3, n3, r3⟩ := wk.yields j F2 H2 v H3 x n2.ff n2.fh n2.hh hxi hy
    have ed : xs.drop j = x :: xs.drop (j + 1) := by
      rw [List.drop_eq_getElem_cons hlt]
      congr 1
      rw [List.getElem?_eq_getElem hlt] at hxi
      exact Option.some.inj hxi
    rw [ed] at hc
    have n13 := n2.trans n3
    have R3 := ((R.nw n1).nw n13).wipe vs
    refine CT.bound hv hc r3 R3 fun ρ4 σ4 hk R4 hw => ⟨by rw [hw, wipe_wipe σ vs vs fun _ q => q], ?_⟩
    show liftE K w tk σ4 H3 _
    refine ⟨G, F3, ρ4, _, R4, hk, fun y v5 F5 H5 hy5 n5 r5 => ?_⟩
    refine ⟨G, F5, ρ4, _, R4.nw n5, hy5, fun z v6 F6 H6 hz n6 r6 => ?_⟩
    have n36 := n3.trans (n5.trans n6)
    have f6 : F6 L = none := n36.nw L _ h2 trivial f2
    have h6 := n36.hh _ _ h2
    cases y <;> try exact hz.elim
    case str nm =>
      cases r5
      obtain ⟨nk, sm, hz⟩ := hz
      have lk : kvs.length = ks.length := by have := congrArg List.length ke; simpa using this
      refine ⟨kvs, Sum.inr nm, rfl, h6, by have := sm.line; omega, F6, kvs ++ [(Sum.inr nm, v6)], ks ++ [nm], us ++ [z], ((n13.trans (n5.trans n6))).muto hL f6, f6, by rw [put_new ke nk]; exact upd_same, ?_, ?_, hz⟩
      · rw [List.map_append, ke, List.map_append]; rfl
      · rw [List.map_append]
        exact (RpA.same n36.ff r2).append (.one r6)
  · have e' : j = xs.length := by omega
    subst e'
    rw [List.drop_length] at hc
    have n12 := n1.trans n2
    have hL0 : H L = none := none_of_same n1.hh hL
    have nz := n12.fz hL0 f2 h2
    have ff : Same F2 (upd F2 L (.dK kvs)) := same_new f2
    exact .inl ⟨wk.stops H2 n2.hh, e.nx _ _ _ H2 hc (nz.gr R.gh) ((R.nw nz).setD i (.dicK upd_same ke (RpA.same ff r2)))⟩
end
section
variable {X : Cx} {kx vx tg iter : Expr} {scope : Scope} {own : List (Str × Nat)} {pos spos py : Pos} {tj : TXJ} {c : CT} {tk tv : TX}
theorem pxs_setDc {i : Nat} {y : Str} (hc : X.calm = true) (hN : X.N.Nodup) (hy : X.N[i]? = some y) (hyl : X.env.scope.names.lookup y = some .local)
    (hsw : swapsWith (.DictComp kx vx [⟨tg, iter, [], 0⟩] scope pos) (some (.Name y py)) spos.line X.env = pure true) (hi : PXJ X tg iter tj) (ok : BlkOk X.N X.env.scope scope own) (hv : ∀ i ∈ c.ixs, i ∈ own.map (·.2))
    (hg : OnBlk X scope fun B => PG B tg (c.raw X.K)) (hk : OnBlk X scope fun B => PX B kx tk) (he : OnBlk X scope fun B => PX B vx tv) (hs : ∀ x, foldedSetIterable iter X.env x = pure x := by intro _; rfl) :
    PXS X (.Assign [.Name y py] (.DictComp kx vx [⟨tg, iter, [], 0⟩] scope pos) spos) (sSetDc i tj c tk tv (own.map (·.2))) := PS.weak (ps_setDc hc hN hy hyl hsw hi ok hg (fun _ _ _ _ _ => pts_nil) hk he hs) fun Z σ H h => liftS_dc hv Z σ H h
end
end PL
end

section
set_option Elab.async false
set_option linter.all false
set_option maxRecDepth 100000
set_option maxHeartbeats 2000000
namespace PL
open PySem PySem.Spec PyProof.Rows L2
section
variable {K : PySem.W.Frag} {w : World} {F F0 : Hp}
theorem walkP_rev {a : Addr} {vs : List V} {xs : List D} (h : F0 a = some (.lst vs)) (r : RpA K w F vs xs) : WalkP K w F F0 (Itv K a vs.length) xs.reverse where
  goes := fun i H hi e => by
    have hv : i < vs.length := by rw [r.length]; simpa using hi
    exact ⟨hv, vs, vs[vs.length - 1 - i], SqL.of (e _ _ h), by rw [List.getElem?_eq_getElem]⟩
  stops := fun H e => by rw [List.length_reverse, ← r.length]; exact Nat.le_refl _
  yields := fun i F1 H v H' x e e1 e0 hx y => by
    obtain ⟨rfl, y⟩ := y
    have hi : i < xs.length := by
      have := (List.getElem?_eq_some_iff.mp hx).1
      simpa using this
    rw [List.getElem?_reverse hi] at hx
    obtain ⟨u, h1, h2⟩ := r.get hx
    have h3 := y vs (SqL.of (e0 _ _ h))
    rw [r.length, h1] at h3
    cases h3
    exact ⟨F1, .refl e1, Rp.same e h2⟩
end
def iRevP (t : TX) : TXI := fun ρ k => t ρ fun x => match x with | .lst xs => k xs.reverse ρ | _ => False
section
variable {X : Cx} {tg e : Expr} {t : TX} {p pos : Pos}
theorem pxi_rev (hg : Gl X "reversed") (hm : X.mg "reversed" = none) (h : PX X e t) (hs : starEach [e] X.env = [(false, eval e X.env)] := by rfl) : PXI X tg (.Call (.Name "reversed" p) [e] [] pos) (iRevP t) :=
  PI.weak (pi_reversed hg hm (pa_cons h pa_nil hs) hs) fun σ H R ⟨G, F, ρ, k, Re, ht, hp⟩ => ⟨G, F, ρ, _, Re, ht, fun x v F' H' hx n r => by
    cases x <;> try exact hx.elim
    case lst xs =>
      cases r with
      | lst h1 h2 => exact ⟨_, _, rfl, SqL.of (n.fh _ _ h1), hp _ _ _ _ _ hx (n.gr Re.gh) (Re.nw n) (walkP_rev h1 h2)⟩⟩
end
/-- the truth values of a list -/
def blsD : List D → Option (List Bool)
  | [] => some []
  | .bl x :: ds => (match blsD ds with | some xs => some (x :: xs) | none => none)
  | _ => none
theorem blsD_map : ∀ {ds : List D} {xs : List Bool}, blsD ds = some xs → ds = xs.map D.bl
  | [], xs, e => by cases e; rfl
  | d :: ds, xs, e => by
    cases d <;> try (cases e; done)
    case bl x =>
      unfold blsD at e
      cases q : blsD ds with
      | none => rw [q] at e; cases e
      | some ys => rw [q] at e; cases e; rw [blsD_map q]; rfl
@[simp] theorem blsD_bls (xs : List Bool) : blsD (xs.map D.bl) = some xs := by
  induction xs with
  | nil => rfl
  | cons x xs ih =>
    show (match blsD (xs.map D.bl) with | some ys => some (x :: ys) | none => none) = _
    rw [ih]
def inBD : Op2
  | .bl b, .lst ds, k => (match blsD ds with | some bs => k (.bl (decide (b ∈ bs))) | none => False)
  | _, _, _ => False
theorem bls_py : ∀ bs : List Bool, D.pys (bs.map D.bl) = bs.map PyData.bool
  | [] => rfl
  | b :: bs => by rw [List.map_cons, D.pys, bls_py bs]; rfl
theorem bls_dp {K : PySem.W.Frag} {H : Hp} : ∀ bs : List Bool, DpAll K H (bs.map V.bl) (bs.map PyData.bool)
  | [] => .nil
  | b :: bs => .cons (.bl b) (bls_dp bs)
theorem bls_lay : ∀ bs : List Bool, PyData.canLayAll0 (bs.map PyData.bool) = true ∧ PyData.depthAll (bs.map PyData.bool) = 0
  | [] => by simp [PyData.canLayAll0, PyData.depthAll]
  | b :: bs => by
    obtain ⟨h1, h2⟩ := bls_lay bs
    simp [PyData.canLayAll0, PyData.depthAll, PyData.canLay0, PyData.depth, h1, h2]
section
variable {X : Cx}
theorem op_inB (hu : X.A.units + 65 < cLine) : OpR X (compareOp .In) (rDR X.K X.w inBD) := by
  intro pins s σ H v u v' u' Q I rv ru h
  obtain ⟨F, x, y, k, fh, r1, r2, hg, hp⟩ := h
  generalize hy : y.dat = yd at hg
  cases x <;> try exact hg.elim
  case bl b =>
    cases yd <;> try exact hg.elim
    case lst ds =>
      obtain ⟨p, vs, rfl, h1, h2⟩ := r2.lst hy fh
      unfold inBD at hg
      dsimp only at hg
      split at hg
      · rename_i bs e
        have e := blsD_map e
        subst e
        have e2 := h2.bls
        subst e2
        cases r1
        obtain ⟨l1, l2⟩ := bls_lay bs
        refine op_inD hu pins s σ H _ _ _ _ Q I rv ru ⟨.bool b, bs.map PyData.bool, .bl b, .lst (SqL.of h1) (bls_dp bs), rfl, ?_, ?_⟩
        · show (PyData.canLay0 (.list (bs.map PyData.bool)) && decide (PyData.depth (.list (bs.map PyData.bool)) ≤ 64)) = true
          simp [PyData.canLay0, PyData.depth, l1, l2]
        · have e : ((bs.map PyData.bool).any fun z => PyData.eqv z (.bool b)) = decide (b ∈ bs) := by
            rw [Bool.eq_iff_iff, List.any_eq_true, decide_eq_true_eq]
            constructor
            · rintro ⟨z, hz, q⟩
              obtain ⟨c, hc, rfl⟩ := List.mem_map.mp hz
              have : c = b := by simpa [PyData.eqv] using q
              rw [← this]; exact hc
            · intro hb
              exact ⟨.bool b, List.mem_map.mpr ⟨b, hb, rfl⟩, by simp [PyData.eqv]⟩
          rw [e]
          exact post_here hp fh hg (.bl _)
      · exact hg.elim
theorem px_inB {a b : Expr} {ta : TX} {tb : TXR} {pos : Pos} (hu : X.A.units + 65 < cLine) (ha : PX X a ta) (hb : PR X b tb) (hm : behindInMarks .In b = false := by rfl) : PX X (.Compare a [.In] [b] pos) (xIn ta tb inBD) :=
  PE.weak (pe_cmpR (op_inB hu) ha hb hm) lift_in
end
end PL
end

section
set_option Elab.async false
set_option linter.all false
set_option maxRecDepth 100000
set_option maxHeartbeats 2000000
namespace PL
open PySem PySem.Spec PyProof.Rows L2
@[simp] theorem s_xD {x : D} {k : D → Prop} : (xD (some (some (.d x))) k) = (k x) := id rfl
@[simp] theorem s_xP {x : PV} {k : PV → Prop} : (xP (some (some x)) k) = (k x) := id rfl
@[simp] theorem s_xVar {i : Nat} {ρ : PEnv}{k : D → Prop} : (xVar i ρ k) = (xD ρ[i]? k) := id rfl
@[simp] theorem s_rVar {i : Nat} {ρ : PEnv}{k : PV → Prop} : (rVar i ρ k) = (xP ρ[i]? k) := id rfl
@[simp] theorem s_xC {d : D} {ρ : PEnv}{k : D → Prop} : (xC d ρ k) = (k d) := id rfl
@[simp] theorem s_rOf {t : TX} {ρ : PEnv}{k : PV → Prop} : (rOf t ρ k) = (t ρ fun x => k (.d x)) := id rfl
@[simp] theorem s_xOfF {t : PEnv → (List D → Prop) → Prop} {ρ : PEnv}{k : D → Prop} : (xOfF t ρ k) = (t ρ fun xs => k (.lst xs)) := id rfl
@[simp] theorem s_xBin {g : Op2} {ta tb : TX} {ρ : PEnv}{k : D → Prop} : (xBin g ta tb ρ k) = (ta ρ fun x => tb ρ fun y => g x y k) := id rfl
@[simp] theorem s_addI {i j : Int} {k : D → Prop} : (addD (.int i) (.int j) k) = (k (.int (i + j))) := id rfl
@[simp] theorem s_addT {a b : List D} {k : D → Prop} : (addD (.tup a) (.tup b) k) = (Sm (a.length + b.length) ∧ k (.tup (a ++ b))) := id rfl
@[simp] theorem s_addL {a b : List D} {k : D → Prop} : (addD (.lst a) (.lst b) k) = (Sm (a.length + b.length) ∧ k (.lst (a ++ b))) := id rfl
@[simp] theorem s_subI {i j : Int} {k : D → Prop} : (subD (.int i) (.int j) k) = (k (.int (i - j))) := id rfl
@[simp] theorem s_mulI {i j : Int} {k : D → Prop} : (mulD (.int i) (.int j) k) = (CMul i j ∧ k (.int (i * j))) := id rfl
@[simp] theorem s_modI {i j : Int} {k : D → Prop} : (modD (.int i) (.int j) k) = (j ≠ 0 ∧ k (.int (i.fmod j))) := id rfl
@[simp] theorem s_ltI {i j : Int} {k : D → Prop} : (ltD (.int i) (.int j) k) = (k (.bl (decide (i < j)))) := id rfl
@[simp] theorem s_ltS {i j : Str} {k : D → Prop} : (ltD (.str i) (.str j) k) = (k (.bl (decide (i.cps.toList < j.cps.toList)))) := id rfl
@[simp] theorem s_leI {i j : Int} {k : D → Prop} : (leD (.int i) (.int j) k) = (k (.bl (decide (i ≤ j)))) := id rfl
@[simp] theorem s_gtI {i j : Int} {k : D → Prop} : (gtD (.int i) (.int j) k) = (k (.bl (decide (j < i)))) := id rfl
@[simp] theorem s_geI {i j : Int} {k : D → Prop} : (geD (.int i) (.int j) k) = (k (.bl (decide (j ≤ i)))) := id rfl
@[simp] theorem s_eqD {x y : D} {k : D → Prop} : (eqD x y k) = (x.cln = true ∧ y.cln = true ∧ k (.bl (decide (x = y)))) := id rfl
@[simp] theorem s_neD {x y : D} {k : D → Prop} : (neD x y k) = (x.cln = true ∧ y.cln = true ∧ k (.bl (!decide (x = y)))) := id rfl
@[simp] theorem s_eqB {a b : Bool} {k : D → Prop} : (eqB (.bl a) (.bl b) k) = (k (.bl (decide (a = b)))) := id rfl
@[simp] theorem s_neB {a b : Bool} {k : D → Prop} : (neB (.bl a) (.bl b) k) = (k (.bl (!decide (a = b)))) := id rfl
@[simp] theorem s_isND {x : D} {k : D → Prop} : (isND x .non k) = (k (.bl (decide (x = .non)))) := by simp [isND]
@[simp] theorem s_notND {x : D} {k : D → Prop} : (notND x .non k) = (k (.bl (!decide (x = .non)))) := by simp [notND]
@[simp] theorem s_xIn {ta : TX} {tb : TXR} {g : D → D → (D → Prop) → Prop} {ρ : PEnv}{k : D → Prop} : (xIn ta tb g ρ k) = (ta ρ fun x => tb ρ fun y => g x y.dat k) := id rfl
@[simp] theorem s_inT {b : Bool} {x : D} {ys : List D} {k : D → Prop} : (inD b x (.tup ys) k) = (x.cln = true ∧ (D.tup ys).cln = true ∧ k (.bl (if b then !decide (x ∈ ys) else decide (x ∈ ys)))) := by cases x <;> rfl
@[simp] theorem s_inL {b : Bool} {x : D} {ys : List D} {k : D → Prop} : (inD b x (.lst ys) k) = (x.cln = true ∧ (D.lst ys).cln = true ∧ k (.bl (if b then !decide (x ∈ ys) else decide (x ∈ ys)))) := by cases x <;> rfl
@[simp] theorem s_inDic {b : Bool} {x ks vs : List D} {k : D → Prop} : (inD b (.tup x) (.dic ks vs) k) = (D.kok 8 (.tup x) = true ∧ k (.bl (if b then !decide (D.tup x ∈ ks) else decide (D.tup x ∈ ks)))) := id rfl
@[simp] theorem s_inDik {b : Bool} {x : Str} {ks : List Str} {vs : List D} {k : D → Prop} : (inD b (.str x) (.dik ks vs) k) = (k (.bl (if b then !decide (x ∈ ks) else decide (x ∈ ks)))) := id rfl
@[simp] theorem s_inStr {b : Bool} {x y : Str} {k : D → Prop} : (inD b (.str x) (.str y) k) = (∃ c, x = ⟨#[c]⟩ ∧ k (.bl (if b then !decide (c ∈ y.cps.toList) else decide (c ∈ y.cps.toList)))) := id rfl
@[simp] theorem s_ixT {xs : List D} {i : Int} {k : D → Prop} : (ixD (.tup xs) (.int i) k) = (match atI xs i with | some v => k v | none => False) := id rfl
@[simp] theorem s_ixL {xs : List D} {i : Int} {k : D → Prop} : (ixD (.lst xs) (.int i) k) = (match atI xs i with | some v => k v | none => False) := id rfl
@[simp] theorem s_ixDic {ks vs y : List D} {k : D → Prop} : (ixD (.dic ks vs) (.tup y) k) = (D.kok 8 (.tup y) = true ∧ match dLook ks vs (.tup y) with | some v => k v | none => False) := id rfl
@[simp] theorem s_ixDik {ks : List Str} {vs : List D} {y : Str} {k : D → Prop} : (ixD (.dik ks vs) (.str y) k) = (match sLook ks vs y with | some v => k v | none => False) := id rfl
@[simp] theorem s_xIx {ta : TXR} {tb : TX} {ρ : PEnv}{k : D → Prop} : (xIx ta tb ρ k) = (ta ρ fun x => tb ρ fun y => ixD x.dat y k) := id rfl
@[simp] theorem s_isB {b : Bool} {k : Bool → Prop} : (isB (.bl b) k) = (k b) := id rfl
@[simp] theorem s_truI {i : Int} {k : Bool → Prop} : (truD (.int i) k) = (k (i != 0)) := id rfl
@[simp] theorem s_truN {k : Bool → Prop} : (truD .non k) = (k false) := id rfl
@[simp] theorem s_truB {b : Bool} {k : Bool → Prop} : (truD (.bl b) k) = (k b) := id rfl
@[simp] theorem s_truT {xs : List D} {k : Bool → Prop} : (truD (.tup xs) k) = (k (!xs.isEmpty)) := id rfl
@[simp] theorem s_truL {xs : List D} {k : Bool → Prop} : (truD (.lst xs) k) = (k (!xs.isEmpty)) := id rfl
@[simp] theorem s_tB1 {t : TX} {ρ : PEnv}{k : Bool → Prop} : (tB1 t ρ k) = (t ρ fun x => isB x k) := id rfl
@[simp] theorem s_tTr {t : TXR} {ρ : PEnv}{k : Bool → Prop} : (tTr t ρ k) = (t ρ fun x => truD x.dat k) := id rfl
@[simp] theorem s_tAnd1 {t u : TXT} {ρ : PEnv}{k : Bool → Prop} : (tAnd1 t u ρ k) = (t ρ fun b => if b = true then u ρ k else k false) := id rfl
@[simp] theorem s_tOr1 {t u : TXT} {ρ : PEnv}{k : Bool → Prop} : (tOr1 t u ρ k) = (t ρ fun b => if b = true then k true else u ρ k) := id rfl
@[simp] theorem s_tNot1 {t : TXT} {ρ : PEnv}{k : Bool → Prop} : (tNot1 t ρ k) = (t ρ fun b => k (!b)) := id rfl
@[simp] theorem s_xAnd {ta tb : TX} {ρ : PEnv}{k : D → Prop} : (xAnd ta tb ρ k) = (ta ρ fun x => isB x fun b => if b = true then tb ρ k else k (.bl false)) := id rfl
@[simp] theorem s_xOr {ta tb : TX} {ρ : PEnv}{k : D → Prop} : (xOr ta tb ρ k) = (ta ρ fun x => isB x fun b => if b = true then k (.bl true) else tb ρ k) := id rfl
@[simp] theorem s_xNot {ta : TXR} {ρ : PEnv}{k : D → Prop} : (xNot ta ρ k) = (ta ρ fun x => truD x.dat fun b => k (.bl (!b))) := id rfl
@[simp] theorem s_xIfE {t : TXT} {ta tb : TX} {ρ : PEnv}{k : D → Prop} : (xIfE t ta tb ρ k) = (t ρ fun b => if b = true then ta ρ k else tb ρ k) := id rfl
@[simp] theorem s_xChain {g g' : Op2} {ta tb tc : TX} {ρ : PEnv}{k : D → Prop} : (xChain g g' ta tb tc ρ k) = (ta ρ fun x => tb ρ fun y => g x y fun z => isB z fun b => if b = true then tc ρ fun w => g' y w k else k (.bl false)) := id rfl
@[simp] theorem s_aNil {ρ : PEnv}{k : List PV → Prop} : (aNil ρ k) = (k []) := id rfl
@[simp] theorem s_aCons {t : TXR} {r : TXA} {ρ : PEnv}{k : List PV → Prop} : (aCons t r ρ k) = (t ρ fun x => r ρ fun xs => k (x :: xs)) := id rfl
@[simp] theorem s_allD0  : (allD []) = (some []) := id rfl
@[simp] theorem s_allD1 {x : D} {r : List PV} : (allD (.d x :: r)) = (match allD r with | some xs => some (x :: xs) | none => none) := id rfl
@[simp] theorem s_withD {pvs : List PV} {k : List D → Prop} : (withD pvs k) = (match allD pvs with | some ds => k ds | none => False) := id rfl
@[simp] theorem s_xTup {r : TXA} {ρ : PEnv}{k : D → Prop} : (xTup r ρ k) = (r ρ fun pvs => withD pvs fun ds => Sm ds.length ∧ k (.tup ds)) := id rfl
@[simp] theorem s_fLst {r : TXA} {ρ : PEnv}{k : List D → Prop} : (fLst r ρ k) = (r ρ fun pvs => withD pvs fun ds => Sm ds.length ∧ k ds) := id rfl
@[simp] theorem s_xCall {g : List D → (D → Prop) → Prop} {r : TXA} {ρ : PEnv}{k : D → Prop} : (xCall g r ρ k) = (r ρ fun pvs => g (pvs.map PV.dat) k) := id rfl
@[simp] theorem s_lenT {xs : List D} {k : D → Prop} : (lenD [.tup xs] k) = (k (.int xs.length)) := id rfl
@[simp] theorem s_lenL {xs : List D} {k : D → Prop} : (lenD [.lst xs] k) = (k (.int xs.length)) := id rfl
@[simp] theorem s_lenS {z : Str} {k : D → Prop} : (lenD [.str z] k) = (Sm z.length ∧ k (.int z.length)) := id rfl
@[simp] theorem s_intI {i : Int} {k : D → Prop} : (intD [.int i] k) = (k (.int i)) := id rfl
@[simp] theorem s_max2 {i j : Int} {k : D → Prop} : (maxD2 [.int i, .int j] k) = (k (.int (max i j))) := by show k _ = k _; congr 2; omega
@[simp] theorem s_min2 {i j : Int} {k : D → Prop} : (minD2 [.int i, .int j] k) = (k (.int (min i j))) := by show k _ = k _; congr 2; omega
@[simp] theorem s_max3 {i j l : Int} {k : D → Prop} : (maxD3 [.int i, .int j, .int l] k) = (k (.int (max i (max j l)))) := id rfl
@[simp] theorem s_min3 {i j l : Int} {k : D → Prop} : (minD3 [.int i, .int j, .int l] k) = (k (.int (min i (min j l)))) := id rfl
@[simp] theorem s_tupleL {xs : List D} {k : D → Prop} : (tupleD [.lst xs] k) = (k (.tup xs)) := id rfl
@[simp] theorem s_tupleT {xs : List D} {k : D → Prop} : (tupleD [.tup xs] k) = (k (.tup xs)) := id rfl
@[simp] theorem s_xMaxDef {r : TXR} {q : TX} {ρ : PEnv}{k : D → Prop} : (xMaxDef (aCons r aNil) q ρ k) = (r ρ fun pv => q ρ fun y => match pv.dat with | .lst xs => maxDef xs y k | .tup xs => maxDef xs y k | _ => False) := by simp only [xMaxDef, s_aCons, s_aNil, List.map_cons, List.map_nil]; congr 1; funext pv; congr 1; funext y; cases pv.dat <;> rfl
@[simp] theorem s_maxDef {ns : List Int} {d : Int} {k : D → Prop} : (maxDef (ns.map D.int) (.int d) k) = (k (.int (maxOf d ns))) := by simp [maxDef]
@[simp] theorem s_xIsi {f : D → Bool} {ta : TXR} {ρ : PEnv}{k : D → Prop} : (xIsi f ta ρ k) = (ta ρ fun x => isDicD x.dat = false ∧ k (.bl (f x.dat))) := id rfl
@[simp] theorem s_fRng1 {ta : TX} {ρ : PEnv}{k : List D → Prop} : (fRng1 ta ρ k) = (ta ρ fun x => match x with | .int n => Sm2 0 n ∧ k (rngD 0 n) | _ => False) := id rfl
@[simp] theorem s_fRng2 {ta tb : TX} {ρ : PEnv}{k : List D → Prop} : (fRng2 ta tb ρ k) = (ta ρ fun x => tb ρ fun y => match x, y with | .int m, .int n => Sm2 m n ∧ k (rngD m n) | _, _ => False) := id rfl
@[simp] theorem s_xIdx {tr : TXR} {te : TX} {ρ : PEnv}{k : D → Prop} : (xIdx tr te ρ k) = (tr ρ fun x => match x.dat with | .lst xs => te ρ fun y => (D.lst xs).cln = true ∧ y.cln = true ∧ y ∈ xs ∧ k (.int (xs.idxOf y : Nat)) | _ => False) := id rfl
@[simp] theorem s_sNext {Z : EndsP} {ρ : PEnv} : (sNext Z ρ) = (Z.nx ρ) := id rfl
@[simp] theorem s_sSeq {t u : TXS} {Z : EndsP} {ρ : PEnv} : (sSeq t u Z ρ) = (t { Z with nx := u Z } ρ) := id rfl
@[simp] theorem s_sBreak {Z : EndsP} {ρ : PEnv} : (sBreak Z ρ) = (Z.bk ρ) := id rfl
@[simp] theorem s_sCont {Z : EndsP} {ρ : PEnv} : (sCont Z ρ) = (Z.ct ρ) := id rfl
@[simp] theorem s_sRet {t : TX} {Z : EndsP} {ρ : PEnv} : (sRet t Z ρ) = (t ρ Z.rt) := id rfl
@[simp] theorem s_sRetV {i : Nat} {Z : EndsP} {ρ : PEnv} : (sRetV i Z ρ) = (xP ρ[i]? fun pv => Z.rt pv.dat) := id rfl
@[simp] theorem s_sIf {c : TXT} {t u : TXS} {Z : EndsP} {ρ : PEnv} : (sIf c t u Z ρ) = (c ρ fun b => if b = true then t Z ρ else u Z ρ) := id rfl
@[simp] theorem s_sSet {i : Nat} {t : TX} {Z : EndsP} {ρ : PEnv} : (sSet i t Z ρ) = (t ρ fun x => Z.nx (ρ.set i (some (.d x)))) := id rfl
@[simp] theorem s_sSetF {i : Nat} {t : PEnv → (List D → Prop) → Prop} {Z : EndsP} {ρ : PEnv} : (sSetF i t Z ρ) = (t ρ fun xs => Z.nx (ρ.set i (some (.own xs)))) := id rfl
@[simp] theorem s_sMove {i j : Nat} {Z : EndsP} {ρ : PEnv} : (sMove i j Z ρ) = (xP ρ[j]? fun pv => match pv with | .d x => Z.nx (ρ.set i (some (.d x))) | pv => Z.nx ((ρ.set j none).set i (some pv))) := id rfl
@[simp] theorem s_sDrop {t : TX} {Z : EndsP} {ρ : PEnv} : (sDrop t Z ρ) = (t ρ fun _ => Z.nx ρ) := id rfl
@[simp] theorem s_gN {i : Nat} {x : D} {ρ : PEnv}{k : PEnv → Prop} : (gN i x ρ k) = (k (ρ.set i (some (.d x)))) := id rfl
@[simp] theorem s_gT {is : List Nat} {xs : List D} {ρ : PEnv}{k : PEnv → Prop} : (gT is (.tup xs) ρ k) = (xs.length = is.length ∧ k (gsSet is xs ρ)) := id rfl
@[simp] theorem s_gs1 {i : Nat} {is : List Nat} {x : D} {xs : List D} {ρ : PEnv} : (gsSet (i :: is) (x :: xs) ρ) = (gsSet is xs (ρ.set i (some (.d x)))) := id rfl
@[simp] theorem s_gs0 {xs : List D} {ρ : PEnv} : (gsSet [] xs ρ) = (ρ) := by cases xs <;> rfl
@[simp] theorem s_sAsg {t : TX} {g : TXG} {Z : EndsP} {ρ : PEnv} : (sAsg t g Z ρ) = (t ρ fun x => g x ρ Z.nx) := id rfl
@[simp] theorem s_sAug {i : Nat} {f : Int → Int → Int} {t : TX} {Z : EndsP} {ρ : PEnv} : (sAug i f t Z ρ) = (xD ρ[i]? fun x => t ρ fun y => match x, y with | .int a, .int b => Z.nx (ρ.set i (some (.d (.int (f a b))))) | _, _ => False) := id rfl
@[simp] theorem s_iX {t : TX} {ρ : PEnv}{k : List D → PEnv → Prop} : (iX t ρ k) = (t ρ fun x => match seqOf x with | some xs => k xs ρ | none => False) := id rfl
@[simp] theorem s_iV {i : Nat} {ρ : PEnv}{k : List D → PEnv → Prop} : (iV i ρ k) = (xP ρ[i]? fun pv => match pv with | .own xs => k xs (ρ.set i (some (.d (.lst xs)))) | .d x => (match seqOf x with | some xs => k xs ρ | none => False) | _ => False) := id rfl
@[simp] theorem s_iStrP {t : TX} {ρ : PEnv}{k : List D → PEnv → Prop} : (iStrP t ρ k) = (t ρ fun x => match x with | .str z => k (signs z) ρ | _ => False) := id rfl
@[simp] theorem s_iR1 {t : TX} {ρ : PEnv}{k : List D → PEnv → Prop} : (iR1 t ρ k) = (t ρ fun x => match x with | .int n => Sm2 0 n ∧ k (rngD 0 n) ρ | _ => False) := id rfl
@[simp] theorem s_iR2 {t u : TX} {ρ : PEnv}{k : List D → PEnv → Prop} : (iR2 t u ρ k) = (t ρ fun x => u ρ fun y => match x, y with | .int m, .int n => Sm2 m n ∧ k (rngD m n) ρ | _, _ => False) := id rfl
@[simp] theorem s_iZip {t u : TX} {ρ : PEnv}{k : List D → PEnv → Prop} : (iZip t u ρ k) = (t ρ fun x => u ρ fun y => match x, y with | .tup xs, .tup ys => k (zipD xs ys) ρ | .lst xs, .lst ys => k (zipD xs ys) ρ | _, _ => False) := id rfl
@[simp] theorem s_iRevP {t : TX} {ρ : PEnv}{k : List D → PEnv → Prop} : (iRevP t ρ k) = (t ρ fun x => match x with | .lst xs => k xs.reverse ρ | _ => False) := id rfl
@[simp] theorem s_seqL {xs : List D} : (seqOf (.lst xs)) = (some xs) := id rfl
@[simp] theorem s_seqT {xs : List D} : (seqOf (.tup xs)) = (some xs) := id rfl
@[simp] theorem s_jX {t : TX} {ρ : PEnv}{k : List D → Prop} : (jX t ρ k) = (t ρ fun x => match seqOf x with | some xs => k xs | none => False) := id rfl
@[simp] theorem s_jV {i : Nat} {ρ : PEnv}{k : List D → Prop} : (jV i ρ k) = (xP ρ[i]? fun pv => match seqOf pv.dat with | some xs => k xs | none => False) := id rfl
@[simp] theorem s_jR1 {t : TX} {ρ : PEnv}{k : List D → Prop} : (jR1 t ρ k) = (t ρ fun x => match x with | .int n => Sm2 0 n ∧ k (rngD 0 n) | _ => False) := id rfl
@[simp] theorem s_jR2 {t u : TX} {ρ : PEnv}{k : List D → Prop} : (jR2 t u ρ k) = (t ρ fun x => u ρ fun y => match x, y with | .int m, .int n => Sm2 m n ∧ k (rngD m n) | _, _ => False) := id rfl
@[simp] theorem s_jZip {t u : TX} {ρ : PEnv}{k : List D → Prop} : (jZip t u ρ k) = (t ρ fun x => u ρ fun y => match x, y with | .tup xs, .tup ys => k (zipD xs ys) | .lst xs, .lst ys => k (zipD xs ys) | _, _ => False) := id rfl
@[simp] theorem s_sFor {ti : TXI} {g : TXG} {tb : TXS} {Z : EndsP} {ρ : PEnv} : (sFor ti g tb Z ρ) = (ti ρ fun xs ρ' => loopP g tb Z xs ρ') := id rfl
@[simp] theorem s_ctN {i : Nat} : (CT.bind (.name i)) = (gN i) := id rfl
@[simp] theorem s_ctT {is : List Nat} : (CT.bind (.tup is)) = (gT is) := id rfl
@[simp] theorem s_wipe0 {ρ : PEnv} : (wipeP ρ []) = (ρ) := id rfl
@[simp] theorem s_wipe1 {v : Nat} {vs : List Nat} {ρ : PEnv} : (wipeP ρ (v :: vs)) = ((wipeP ρ vs).set v none) := id rfl
@[simp] theorem s_tYesP {ρ : PEnv}{k : Bool → Prop} : (tYesP ρ k) = (k true) := id rfl
@[simp] theorem s_fLc {tj : TXJ} {c : CT} {tt : TXT} {te : TX} {vs : List Nat} {ρ : PEnv}{k : List D → Prop} : (fLc tj c tt te vs ρ k) = (tj ρ fun xs => compP c tt te (wipeP ρ vs) k xs []) := id rfl
@[simp] theorem s_fLc2 {tj : TXJ} {c : CT} {tt : TXT} {j1 : TXJ} {c1 : CT} {tt1 : TXT} {te : TX} {vs vs1 : List Nat} {ρ : PEnv}{k : List D → Prop} : (fLc2 tj c tt j1 c1 tt1 te vs vs1 ρ k) = (tj ρ fun xs => comp2P c tt j1 c1 tt1 te vs1 (wipeP ρ vs) k xs []) := id rfl
@[simp] theorem s_sSetDc {i : Nat} {tj : TXJ} {c : CT} {tk tv : TX} {vs : List Nat} {Z : EndsP} {ρ : PEnv} : (sSetDc i tj c tk tv vs Z ρ) = (tj ρ fun xs => compDP c tk tv (wipeP ρ vs) (fun ks us => Z.nx (ρ.set i (some (.d (.dik ks us))))) xs [] []) := id rfl
@[simp] theorem s_ownOf {xs : List D} {k : List D → Prop} : (ownOf (some (some (.own xs))) k) = (k xs) := id rfl
@[simp] theorem s_sApp {i : Nat} {t : TX} {Z : EndsP} {ρ : PEnv} : (sApp i t Z ρ) = (ownOf ρ[i]? fun xs => t ρ fun y => Sm (xs.length + 1) ∧ Z.nx (ρ.set i (some (.own (xs ++ [y]))))) := id rfl
@[simp] theorem s_sExt {i : Nat} {t : TX} {Z : EndsP} {ρ : PEnv} : (sExt i t Z ρ) = (ownOf ρ[i]? fun xs => t ρ fun y => match seqOf y with | some ys => Sm (xs.length + ys.length) ∧ Z.nx (ρ.set i (some (.own (xs ++ ys)))) | none => False) := id rfl
@[simp] theorem s_popOf {xs : List D} {y : D} {k : List D → D → Prop} : (popOf (xs ++ [y]) k) = (k xs y) := by simp [popOf]
@[simp] theorem s_sPop {i : Nat} {g : TXG} {Z : EndsP} {ρ : PEnv} : (sPop i g Z ρ) = (ownOf ρ[i]? fun xs => popOf xs fun ys y => g y (ρ.set i (some (.own ys))) Z.nx) := id rfl
@[simp] theorem s_sPopD {i : Nat} {Z : EndsP} {ρ : PEnv} : (sPopD i Z ρ) = (ownOf ρ[i]? fun xs => popOf xs fun ys _ => Z.nx (ρ.set i (some (.own ys)))) := id rfl
@[simp] theorem s_sNewD {i : Nat} {Z : EndsP} {ρ : PEnv} : (sNewD i Z ρ) = (Z.nx (ρ.set i (some (.odic [] [])))) := id rfl
@[simp] theorem s_odicOf {ks vs : List D} {k : List D → List D → Prop} : (odicOf (some (some (.odic ks vs))) k) = (k ks vs) := id rfl
@[simp] theorem s_sPut {i : Nat} {tk tv : TX} {Z : EndsP} {ρ : PEnv} : (sPut i tk tv Z ρ) = (tv ρ fun v => odicOf ρ[i]? fun ks vs => tk ρ fun k => D.kok 8 k = true ∧ (isTupD k = true) ∧ k ∉ ks ∧ Sm (ks.length + 1) ∧ Z.nx (ρ.set i (some (.odic (ks ++ [k]) (vs ++ [v]))))) := id rfl
@[simp] theorem s_sPar {i j : Nat} {ta tb : TX} {Z : EndsP} {ρ : PEnv} : (sPar i j ta tb Z ρ) = (ta ρ fun x => tb ρ fun y => Z.nx ((ρ.set i (some (.d x))).set j (some (.d y)))) := id rfl
@[simp] theorem s_xFn {n : Nat} {T : FT} {r : TXA} {ρ : PEnv}{k : D → Prop} : (xFn n T r ρ k) = (r ρ fun pvs => pvs.length = n ∧ T (pvs.map PV.dat) fun x => (pvs.any PV.owns = true → D.nl 400 x = true) ∧ k x) := id rfl
@[simp] theorem s_xNeg {t : TX} {ρ : PEnv}{k : D → Prop} : (xNeg t ρ k) = (t ρ fun x => negD x k) := id rfl
@[simp] theorem s_negI {i : Int} {k : D → Prop} : (negD (.int i) k) = (k (.int (-i))) := id rfl
@[simp] theorem s_xTail {t : TX} {ρ : PEnv}{k : D → Prop} : (xTail t ρ k) = (t ρ fun x => tailD x k) := id rfl
@[simp] theorem s_tailT {xs : List D} {k : D → Prop} : (tailD (.tup xs) k) = (k (.tup (xs.drop 1))) := id rfl
@[simp] theorem s_fInit {t : TXR} {ρ : PEnv}{k : List D → Prop} : (fInit t ρ k) = (t ρ fun x => match x.dat with | .lst xs => k xs.dropLast | _ => False) := id rfl
@[simp] theorem s_xLenSet {tr : TXR} {ρ : PEnv}{k : D → Prop} : (xLenSet tr ρ k) = (tr ρ fun x => intSeq x.dat fun ns => ns.length ≤ 1000 ∧ k (.int ((ddp ns).length : Nat))) := id rfl
@[simp] theorem s_fSortedSet {tr : TXR} {ρ : PEnv}{k : List D → Prop} : (fSortedSet tr ρ k) = (tr ρ fun x => intSeq x.dat fun ns => ns.length < 64 ∧ k ((srt ns).map D.int)) := id rfl
@[simp] theorem s_inBD {b : Bool} {bs : List Bool} {k : D → Prop} : (inBD (.bl b) (.lst (bs.map D.bl)) k) = (k (.bl (decide (b ∈ bs)))) := by simp [inBD]
@[simp] theorem s_ownsD {x : D} : (PV.owns (.d x)) = (false) := id rfl
@[simp] theorem s_ownsO {x : List D} : (PV.owns (.own x)) = (true) := id rfl
@[simp] theorem s_clI {n : Nat} {i : Int} : (D.cl n (.int i)) = (true) := by cases n <;> rfl
@[simp] theorem s_clN {n : Nat} : (D.cl n .non) = (true) := by cases n <;> rfl
@[simp] theorem s_clS {n : Nat} {x : Str} : (D.cl n (.str x)) = (PyData.strOk x) := by cases n <;> rfl
@[simp] theorem s_clT {n : Nat} {ds : List D} : (D.cl (n + 1) (.tup ds)) = (ds.all (D.cl n)) := id rfl
@[simp] theorem s_clL {n : Nat} {ds : List D} : (D.cl (n + 1) (.lst ds)) = (ds.all (D.cl n)) := id rfl
@[simp] theorem s_kokI {n : Nat} {i : Int} : (D.kok n (.int i)) = (true) := by cases n <;> rfl
@[simp] theorem s_kokS {n : Nat} {x : Str} : (D.kok n (.str x)) = (true) := by cases n <;> rfl
@[simp] theorem s_kokT {n : Nat} {ds : List D} : (D.kok (n + 1) (.tup ds)) = (ds.all (D.kok n)) := id rfl
@[simp] theorem s_nlI {n : Nat} {i : Int} : (D.nl n (.int i)) = (true) := by cases n <;> rfl
@[simp] theorem s_nlB {n : Nat} {i : Bool} : (D.nl n (.bl i)) = (true) := by cases n <;> rfl
@[simp] theorem s_nlN {n : Nat} : (D.nl n .non) = (true) := by cases n <;> rfl
@[simp] theorem s_nlS {n : Nat} {x : Str} : (D.nl n (.str x)) = (true) := by cases n <;> rfl
@[simp] theorem s_nlT {n : Nat} {ds : List D} : (D.nl (n + 1) (.tup ds)) = (ds.all (D.nl n)) := id rfl
theorem ite_iff {c : Prop} [Decidable c] {p q : Prop} : (if c then p else q) ↔ (c → p) ∧ (¬ c → q) := by
  by_cases h : c <;> simp [h]
/-- a loop, by an invariant over what is left -/
theorem loopP_ind {g : TXG} {tb : TXS} {Z : EndsP} (Inv : List D → PEnv → Prop) (h0 : ∀ ρ, Inv [] ρ → Z.nx ρ)
    (h1 : ∀ x xs ρ (C : PEnv → Prop), (∀ ρ', Inv xs ρ' → C ρ') → Inv (x :: xs) ρ → g x ρ fun ρ' => tb { Z with nx := C, ct := C, bk := Z.nx } ρ') : ∀ xs ρ, Inv xs ρ → loopP g tb Z xs ρ
  | [], ρ, h => h0 ρ h
  | x :: xs, ρ, h => h1 x xs ρ _ (fun ρ' q => loopP_ind Inv h0 h1 xs ρ' q) h
/-- a loop over encoded items -/
theorem loopP_enc {α : Type} {g : TXG} {tb : TXS} {Z : EndsP} (enc : α → D) (Inv : List α → PEnv → Prop) (h0 : ∀ ρ, Inv [] ρ → Z.nx ρ)
    (h1 : ∀ x xs ρ (C : PEnv → Prop), (∀ ρ', Inv xs ρ' → C ρ') → Inv (x :: xs) ρ → g (enc x) ρ fun ρ' => tb { Z with nx := C, ct := C, bk := Z.nx } ρ') : ∀ xs ρ, Inv xs ρ → loopP g tb Z (xs.map enc) ρ
  | [], ρ, h => h0 ρ h
  | x :: xs, ρ, h => h1 x xs ρ _ (fun ρ' q => loopP_enc enc Inv h0 h1 xs ρ' q) h
/-- a comprehension over encoded items -/
theorem compP_fm {α : Type} {c : CT} {tt : TXT} {te : TX} {ρ : PEnv} {k : List D → Prop} (enc : α → D) (f : α → Option D) :
    ∀ (l : List α) (acc : List D), l.length + acc.length ≤ 100000 → (∀ x ∈ l, ∀ C : Option D → Prop, C (f x) → c.bind (enc x) ρ fun ρ2 => tt ρ2 fun b => if b = true then te ρ2 fun y => C (some y) else C none) → k (acc ++ l.filterMap f) → compP c tt te ρ k (l.map enc) acc
  | [], acc, _, _, hk => by simpa [compP] using hk
  | x :: l, acc, hl, h, hk => by
    have hl' : l.length + 1 + acc.length ≤ 100000 := hl
    refine h x (List.mem_cons_self ..) (fun o => match o with | some y => Sm (acc.length + 1) ∧ compP c tt te ρ k (l.map enc) (acc ++ [y]) | none => compP c tt te ρ k (l.map enc) acc) ?_
    cases q : f x with
    | none =>
      refine compP_fm enc f l acc (by omega) (fun y hy => h y (List.mem_cons_of_mem _ hy)) ?_
      rw [List.filterMap_cons, q] at hk
      exact hk
    | some y =>
      refine ⟨by show acc.length + 1 ≤ 100000; omega, compP_fm enc f l (acc ++ [y]) (by rw [List.length_append]; simp; omega) (fun y hy => h y (List.mem_cons_of_mem _ hy)) ?_⟩
      rw [List.filterMap_cons, q] at hk
      simpa using hk
theorem compP_map {α : Type} {c : CT} {te : TX} {ρ : PEnv} {k : List D → Prop} (enc : α → D) (f : α → D) (l : List α) (hl : l.length ≤ 100000)
    (h : ∀ x ∈ l, ∀ C : D → Prop, C (f x) → c.bind (enc x) ρ fun ρ2 => te ρ2 C) (hk : k (l.map f)) : compP c tYesP te ρ k (l.map enc) [] := by
  refine compP_fm enc (fun x => some (f x)) l [] (by simpa using hl) (fun x hx C hC => ?_) ?_
  · simpa using h x hx (fun y => C (some y)) hC
  · have e : l.filterMap (fun x => some (f x)) = l.map f := by rw [List.filterMap_eq_map']
    simpa [e] using hk
end PL
end

section
set_option Elab.async false
set_option linter.all false
set_option maxRecDepth 100000
set_option maxHeartbeats 2000000
namespace PL
open PySem PySem.Spec PyProof.Rows L2
/-- one parameter a; all else captured or global -/
structure Lam1 (sc scope : Scope) (a : Str) : Prop where
  kind : scope.kind = .function
  co : scope.isCoroutine = false
  gen : scope.isGenerator = false
  nocell : ∀ y ∈ scope.names, y.2 ≠ .cell
  loc : scope.names.lookup a = some .local
  own : ∀ y ∈ scope.names, y.2 = .local → y.1 = a
  free : ∀ y ∈ scope.names, y.2 = .free → sc.names.lookup y.1 = some .cell ∨ sc.names.lookup y.1 = some .free
abbrev lenv (X : Cx) (scope : Scope) (L f c' : Addr) : Env := PySem.W.envX (X.env.qual ++ "<lambda>") scope L f (.ref c') (cloFrom X.env.cells scope.names [])
def lcx (X : Cx) (A : Around) (s : Shared) (H : Hp) (scope : Scope) (f c' : Addr) (N : List Str) : Cx where
  prog := X.prog
  w := X.w
  K := X.K
  mg := X.mg
  base := X.base
  A := A.deeper (lenv X scope s.heap.objs.size f c')
  N := N
  s_0 := s
  H_0 := H
  env := lenv X scope s.heap.objs.size f c'
  outer := X.stack
  stack := lenv X scope s.heap.objs.size f c' :: X.stack
  ex := []
  fn := fun _ => false
  calm := true
  pn := []
  xe := fun _ _ => False
section
variable {X : Cx} {pins : List (Addr × Obj)} {σ : L2.St} {H : Hp} {s : Shared}
theorem Lam1.has {scope : Scope} {a : Str} (L : Lam1 X.env.scope scope a) (ok : X.Ok) : ∀ y ∈ scope.names, y.2 = .free → ∃ c, X.env.cells.lookup y.1 = some c := fun y hy e => (L.free y hy e).elim (fun k => ok.has _ (.inl k)) fun k => ok.has _ (.inr k)
theorem lam1_start {A : Around} {scope : Scope} {f c' : Addr} {h₁ : Heap} {tk : Nat} {a b : Str} {ib : Nat} {v mv : V} {u : Value} (I : Inv X pins σ H s) (L : Lam1 X.env.scope scope a) (e0 : Env0 X.prog X.w X.K X.mg X.base A X.stack s H) (hd : A.handled = none)
    (hns : h₁.Ns s.heap.objs.size fun y => ([(a, u)] : List (Str × Value)).reverse.lookup y) (kp : ∀ b o, s.heap.get? b = some o → h₁.get? b = some o) (hb : X.N[ib]? = some b) (hσ : σ[ib]? = some (some mv)) (rv : RelV v u) (hab : a ≠ b) :
    Inv (lcx X A s H scope f c' [a, b]) [] [some v, some mv] H { s with heap := h₁, toks := tk } := by
  have hfree := L.has I.ok
  have cm : ∀ {y c}, (cloFrom X.env.cells scope.names []).lookup y = some c → X.env.cells.lookup y = some c := fun {y c} e => by
    rcases cloFrom_mem (PySem.mem_of_lookup e) with hm | ⟨h1, h2⟩
    · cases hm
    · obtain ⟨c1, hc⟩ := hfree _ h1 rfl
      have hc : X.env.cells.lookup y = some c1 := hc
      have e2 : c = c1 := by rw [h2, hc]; rfl
      rw [e2]; exact hc
  have look : ∀ {y}, scope.names.lookup y = some .free → ∃ c, (cloFrom X.env.cells scope.names []).lookup y = some c := fun {y} hl => mem_lookup (cloFrom_has (cells := X.env.cells) (acc := []) (PySem.mem_of_lookup hl))
  have cellK : ∀ {c : Addr} {v : Option Value}, s.heap.IsCell c v → h₁.IsCell c v := fun {c v} ⟨o, ho, hd⟩ => ⟨o, kp _ _ ho, hd⟩
  have noN : ∀ {b : Addr} {p : Prop}, b ∈ ([] : List Addr) → p := fun {b p} z => by cases z
  have noF : ∀ {p : Prop}, false = true → p := fun {p} z => by cases z
  have noP : ∀ {b : Addr × Obj} {p : Prop}, b ∈ ([] : List (Addr × Obj)) ++ [] → p := fun {b p} z => by cases z
  refine ⟨⟨e0.mod, L.kind, rfl, rfl, Nat.le_refl _, fun y z c e1 e2 => I.ok.inj y z c (cm e1) (cm e2), fun y hy => ?_, fun y c z _ => noF z, fun _ => hd, Around.frames_deeper e0.frames, .inr ⟨rfl, rfl⟩, fun b z => noN z, e0.bs, e0.bsz, fun b _ _ z => noN z,
      fun b z => noN z, e0.funs, e0.frf⟩,
    rfl, e0.bare, Un.kept kp, ⟨_, hns, fun i y w e1 e2 e3 => ?_⟩, fun y c e => ?_, e0.hok.fresh (Nat.le_refl _), fun y c e => I.freeC y c (cm e), fun q hq => noP hq, e0.hok.kept kp, rfl⟩
  · have hy : scope.names.lookup y = some .cell ∨ scope.names.lookup y = some .free := hy
    rcases hy with hy | hy
    · exact absurd rfl (L.nocell _ (PySem.mem_of_lookup hy))
    · exact look hy
  · have e3 : Vis scope y := e3
    match i, e1, e2 with
    | 0, e1, e2 =>
      cases e1
      cases e2
      exact ⟨u, rv, .inl ⟨L.loc, by simp⟩⟩
    | 1, e1, e2 =>
      cases e1
      cases e2
      rcases e3 with k | k | k
      · exact absurd (L.own _ (PySem.mem_of_lookup k) rfl) (fun z => hab z.symm)
      · exact absurd rfl (L.nocell _ (PySem.mem_of_lookup k))
      · obtain ⟨m, hn, hl⟩ := I.loc
        have hvis : Vis X.env.scope b := (L.free _ (PySem.mem_of_lookup k) rfl).elim (fun k => .inr (.inl k)) (fun k => .inr (.inr k))
        obtain ⟨w', r, q⟩ := hl ib b mv hb hσ hvis
        obtain ⟨c2, h2⟩ := look k
        refine ⟨w', r, .inr ⟨.inr k, c2, h2, ?_⟩⟩
        have c1 := cm h2
        rcases q with ⟨k', _⟩ | ⟨_, c3, e', z⟩
        · have k' : X.env.scope.names.lookup b = some .local := k'
          rcases L.free _ (PySem.mem_of_lookup k) rfl with k2 | k2 <;> rw [show X.env.scope.names.lookup b = _ from k2] at k' <;> cases k'
        · rw [c1] at e'
          cases e'
          exact cellK z
    | i + 2, e1, _ => simp [lcx] at e1
  · obtain ⟨w', z⟩ := I.cell y c (cm e)
    exact ⟨w', cellK z⟩
/-- the call f(u), in the frame that made f -/
theorem lam1_call {A : Around} {scope : Scope} {f c' : Addr} {a b : Str} {ib k : Nat} {v mv : V} {u pm ctv : Value} {params : Arguments} {body : Expr} {Q : VK} {E : XK} {tb : TE} (I : Inv X pins σ H s) (L : Lam1 X.env.scope scope a) (e0 : Env0 X.prog X.w X.K X.mg X.base A X.stack s H) (hr : Room (k + 1) A)
    (hf : s.heap.get? f = some (PySem.W.kla_obj "<lambda>" (X.env.qual ++ "<lambda>") params body scope (cloFrom X.env.cells scope.names []) pm c' ctv)) (hco : H c' = some (LamX.CodeO c' (X.env.qual ++ "<lambda>")))
    (hbind : bindArgs (PySem.W.kla_fn "<lambda>" (X.env.qual ++ "<lambda>") params body scope (cloFrom X.env.cells scope.names []) pm (.ref c') ctv) ⟨[u], []⟩ = pure [(a, u)]) (hb : X.N[ib]? = some b) (hσ : σ[ib]? = some (some mv)) (rv : RelV v u) (hab : a ≠ b)
    (hbody : ∀ (h₁ : Heap), Room k (A.deeper (lenv X scope s.heap.objs.size f c')) → PE (lcx X A s H scope f c' [a, b]) body tb) (ht : tb [some v, some mv] H Q) :
    codeAny (model X.prog X.w) A (.call (.ref f) ⟨[u], []⟩) (CR C8.CX0 X.stack X.prog X.w H s Q E) s := by
  obtain ⟨⟨oc, vs, t, hoc, hdc, hvc⟩, _, _⟩ := I.hok c' _ hco
  refine PySem.W.kla_callFunE hr.depth hf rfl L.co L.gen rfl ⟨c', oc, vs, t, rfl, hoc, hdc, hvc⟩ ?_
  rw [hbind]
  refine wpAny_pure (wpAny_newFunctionEnv L.nocell (fun y hy => by rw [List.mem_singleton.mp hy]; exact L.loc) (fun h₁ hns hsb => ⟨I.nolimit.fresh _ hsb, ?_⟩) L.kind)
  show codeAny _ _ (.expr body (lenv X scope s.heap.objs.size f c')) _ _
  have kp : ∀ b o, s.heap.get? b = some o → h₁.get? b = some o := fun b o e => hsb.extBut b o (Nat.ne_of_lt (Heap.lt_size e)) (Heap.get?_push_of_some _ e)
  have J := lam1_start (tk := s.toks + ([(a, u)] : List (Str × Value)).length) (f := f) (c' := c') I L e0 hr.hd hns kp hb hσ rv hab
  refine PySem.W.kla_codeExpr (wpAny_mono ((hbody h₁ (hr.deeper _)).run [] _ _ H Q J ht) (fun v s' hq => ?_) fun e s' hq => (show False from hq).elim)
  obtain ⟨w', H', J', rv, q⟩ := hq
  exact ⟨w', H', J'.os, J'.bare, J'.base, J'.hok, rv, q⟩
end
end PL
end

section
set_option Elab.async false
set_option linter.all false
set_option maxRecDepth 100000
set_option maxHeartbeats 2000000
namespace PL
open PySem PySem.Spec PySem.W PyProof.Rows L2
section
variable {X : Cx} {pins : List (Addr × Obj)} {σ : L2.St} {H H0 : Hp} {s s0 : Shared}
/-- things that are newer than s0, that nobody knows, are changed -/
theorem inv_buts {h' : Heap} {cs : List Addr} {tk : Nat} (I0 : L2.Inv X pins σ H0 s0) (I : L2.Inv X pins σ H s) (hc : ∀ c ∈ cs, s0.heap.objs.size ≤ c) (hn : ∀ c ∈ cs, H c = none) (k : ∀ b o, b ∉ cs → s.heap.get? b = some o → h'.get? b = some o) :
    L2.Inv X pins σ H { s with heap := h', toks := tk } := by
  have lt0 : ∀ b o, s0.heap.get? b = some o → b ∉ cs := fun b o e z => absurd (Nat.lt_of_lt_of_le (Heap.lt_size e) (hc b z)) (Nat.lt_irrefl _)
  have old : ∀ b o, X.s_0.heap.get? b = some o → b ∉ cs := fun b o e z => absurd (Nat.lt_of_lt_of_le (Heap.lt_size e) (Nat.le_trans I0.sz (hc b z))) (Nat.lt_irrefl _)
  have locne : X.env.locals ∉ cs := fun z => absurd (Nat.lt_of_lt_of_le I0.lt (hc _ z)) (Nat.lt_irrefl _)
  have cellne : ∀ x d, X.env.cells.lookup x = some d → d ∉ cs := fun x d e => by
    obtain ⟨v, o, ho, _⟩ := I0.cell x d e
    exact lt0 d o ho
  have un := I.base
  obtain ⟨m, hns, hl⟩ := I.loc
  refine ⟨I.ok, I.os, I.bare, ⟨fun b o q n f x => k b o (old b o q) (un.keep b o q n f x), fun b o q n f x => ?_, un.free, fun b o q x => ?_, un.tups, un.frzs, un.tbls⟩, ⟨m, ?_, fun i x v e1 e2 e3 => ?_⟩, fun x d e => ?_, I.free, I.freeC, fun p hp => ?_, fun a o e => ?_, I.len⟩
  · obtain ⟨sl, q2⟩ := un.slot b o q n f x
    exact ⟨sl, k b _ (old b o q) q2⟩
  · obtain ⟨o', q2⟩ := un.there b o q x
    exact ⟨o', k b _ (old b o q) q2⟩
  · obtain ⟨o, es, ep, ho, r⟩ := hns
    exact ⟨o, es, ep, k _ _ locne ho, r⟩
  · obtain ⟨u, r, q⟩ := hl i x v e1 e2 e3
    refine ⟨u, r, q.imp id fun ⟨a, d, e, o, ho, hd⟩ => ⟨a, d, e, o, k d o (cellne x d e) ho, hd⟩⟩
  · obtain ⟨v, o, ho, hd⟩ := I.cell x d e
    exact ⟨v, o, k d o (cellne x d e) ho, hd⟩
  · obtain ⟨a1, a2, a3, a4, a5⟩ := I.pin p hp
    exact ⟨k _ _ (lt0 _ _ (I0.pin p hp).1) a1, a2, a3, a4, a5⟩
  · refine (I.hok a o e).stay (fun d v hd q => k d v (fun z => ?_) q) (fun d q => q) fun d xs q => q
    have nz := hn d z
    rcases hd with z2 | z2
    · rw [z2, e] at nz; cases nz
    · rw [z2] at nz; cases nz
theorem inv_but {h' : Heap} {c : Addr} {tk : Nat} (I0 : L2.Inv X pins σ H0 s0) (I : L2.Inv X pins σ H s) (hc : s0.heap.objs.size ≤ c) (hn : H c = none) (k : ∀ b o, b ≠ c → s.heap.get? b = some o → h'.get? b = some o) : L2.Inv X pins σ H { s with heap := h', toks := tk } :=
  inv_buts (cs := [c]) I0 I (fun d hd => by rw [List.mem_singleton.mp hd]; exact hc) (fun d hd => by rw [List.mem_singleton.mp hd]; exact hn) fun b o hb e => k b o (fun z => hb (List.mem_singleton.mpr z)) e
/-- what a turn of the keys keeps -/
def KTurn (X : Cx) (pins : List (Addr × Obj)) (σ : L2.St) (H0 : Hp) (s0 : Shared) (L kS : Addr) (e1 : Nat) (ks : List Int) (s' : Shared) : Prop :=
  ∃ (H' : Hp) (kA : Array Value) (e : Nat), L2.Inv X pins σ H' s' ∧ Same H0 H' ∧ H' L = none ∧ H' kS = none ∧ s'.heap.get? L = some (seqObj "list" #[] e1) ∧ s'.heap.get? kS = some (seqObj "list" kA e) ∧ IntsAre kA.toList ks
/-- all keys are asked, then the pairs are sorted -/
theorem key_rest {A : Around} {f : Value} {L kS : Addr} {e1 : Nat} {vs : List Value} {kz : List Int} {P : PySem.Fin → Shared → Prop} {E : Value → Shared → Prop} (I0 : L2.Inv X pins σ H0 s0) (hL : s0.heap.objs.size ≤ L) (hS : s0.heap.objs.size ≤ kS) (hka : kS ≠ L)
    (hlen : kz.length = vs.length) (hZ : vs.length ≤ sizeLine) (hu : A.units < cLine)
    (keepU : ∀ (i : Nat) (v : Value) (k : Int), vs[i]? = some v → kz[i]? = some k → ∀ (s1 : Shared) (H1 : Hp), L2.Inv X pins σ H1 s1 → Same H0 H1 → wpAny (model X.prog X.w) A (call f [v]) (fun r s2 => ∃ H2, L2.Inv X pins σ H2 s2 ∧ (∃ t, r = .int k t) ∧ Same H1 H2 ∧ ∀ b o, s1.heap.get? b = some o → H1 b = none → s0.heap.objs.size ≤ b → s2.heap.get? b = some o ∧ H2 b = none) (fun _ _ => False) s1)
    (h0 : KTurn X pins σ H0 s0 L kS e1 [] s)
    (fin : ∀ (s2 : Shared) (H2 : Hp) (out : List Value) (c : Nat), L2.Inv X pins σ H2 s2 → Same H0 H2 → H2 L = none → s2.heap.get? L = some (seqObj "list" (List.toArray out) c) → KeyedOut false (kz.map PyData.int) vs out → P (.done (.ret .none)) s2) :
    wpAny (model X.prog X.w) A (ksk_rest L f false vs.toArray e1 (.ref kS)) P E s := by
  unfold ksk_rest
  refine wpAny_bind (wpAny_rule ?_)
  rw [List.forIn_toArray]
  refine wpAny_bind (ksk_fold (fun i s' => KTurn X pins σ H0 s0 L kS e1 (kz.take i) s') vs 0 s (by rw [List.take_zero]; exact h0) ?step ?done)
  case step =>
    intro j x s' hx ht
    simp only [Nat.zero_add] at ht ⊢
    obtain ⟨H', kA, e, I', sm, nL, nS, gL, gS, hk⟩ := ht
    have hj : j < vs.length := (List.getElem?_eq_some_iff.mp hx).1
    obtain ⟨k, hkj⟩ : ∃ k, kz[j]? = some k := ⟨_, List.getElem?_eq_getElem (by omega)⟩
    have hz : kA.size ≤ vs.length := by
      have h1 := hk.length
      rw [Array.length_toList, List.length_take] at h1
      omega
    refine wpAny_bind (wpAny_attempt (wpAny_mono (keepU j x k hx hkj s' H' I' sm) (fun v s2 he => ?_) fun _ _ hF => hF.elim))
    obtain ⟨H2, I2, ⟨t, rfl⟩, sm2, kp⟩ := he
    obtain ⟨gL2, nL2⟩ := kp L _ gL nL hL
    obtain ⟨gS2, nS2⟩ := kp kS _ gS nS hS
    have s1 := Heap.SameBut.update s2.heap kS (Obj.mapSeq (·.push (Value.int k t)))
    obtain ⟨c2, hc2⟩ : ∃ c2, (s2.heap.update kS (Obj.mapSeq (·.push (Value.int k t)))).get? kS = some (seqObj "list" (kA.push (Value.int k t)) c2) := ⟨_, get?_update_seq gS2 (·.push (Value.int k t))⟩
    refine wpAny_bind (listUpdate_at gS2 rfl ?_ (Nat.le_trans hz hZ) (Nat.le_trans (Nat.le_of_eq (Array.size_push ..)) (Nat.succ_le_succ (Nat.le_trans hz hZ))))
    refine wpAny_pure ⟨rfl, H2, kA.push (Value.int k t), c2, ?_, sm.trans sm2, nL2, nS2, (s1.2 L hka.symm).trans gL2, hc2, ?_⟩
    · exact inv_but (tk := s2.toks) I0 I2 hS nS2 (fun b o hb e => (s1.2 b hb).trans e)
    · have ek : kz.take (j + 1) = kz.take j ++ [k] := by rw [List.take_add_one, hkj]; rfl
      rw [ek, show (kA.push (Value.int k t)).toList = kA.toList ++ [Value.int k t] by simp]
      exact ksk_snoc hk
  case done =>
    intro s' ht
    simp only [Nat.zero_add] at ht
    obtain ⟨H', kA, e, I', sm, nL, nS, gL, gS, hk⟩ := ht
    rw [List.take_of_length_le (by omega)] at hk
    have hsz : kA.size = vs.length := by
      have h1 := hk.length
      rw [Array.length_toList] at h1
      omega
    refine wpAny_bind (listItems_at gS rfl ?_)
    have each : EachIs (fun v d => ∃ as, Reads s'.heap v d as) kA.toList (kz.map PyData.int) := by
      have go : ∀ {us : List Value} {ns : List Int}, IntsAre us ns → EachIs (fun v d => ∃ as, Reads s'.heap v d as) us (ns.map PyData.int) := by
        intro us ns h
        induction h with
        | nil => exact .nil
        | cons n t r ih => exact .cons ⟨_, .int n t⟩ ih
      exact go hk
    have hal : AllAlike (kz.map PyData.int) := fun d hd d' hd' => by
      obtain ⟨i, _, rfl⟩ := List.mem_map.mp hd
      obtain ⟨j, _, rfl⟩ := List.mem_map.mp hd'
      rfl
    have hsk : Sortable (kz.map PyData.int) := .inr fun d hd => by
      obtain ⟨i, _, rfl⟩ := List.mem_map.mp hd
      exact ⟨fun z => (by cases z), fun xs z => (by cases z)⟩
    have hud : ∀ d, d ∈ kz.map PyData.int → A.units + d.depth < cLine := fun d hd => by
      obtain ⟨i, _, rfl⟩ := List.mem_map.mp hd
      simpa [PyData.depth] using hu
    -- the heap without the keys' list
    have hide : ∀ b, b ≠ kS → (fun b => if b = kS then some (HO.lst []) else none : Hp) b = none := fun b hb => by simp [hb]
    have kp : KeepsBut L (hidT s'.heap fun b => if b = kS then some (HO.lst []) else none) s'.heap := fun b o _ q => (of_hidT q).1
    have hkS : (hidT s'.heap fun b => if b = kS then some (HO.lst []) else none).get? kS = none := by
      cases q : (hidT s'.heap fun b => if b = kS then some (HO.lst []) else none).get? kS with
      | none => rfl
      | some o => have := (of_hidT q).2; simp at this
    refine keyH_end (κ := dataKind s'.heap (kz.map PyData.int)) kp hkS gS gL hka (SortsAt.data each hal hsk hud) hsz hZ fun h' tk c kp2 gL2 => ?_
    have ko : KeyedOut false (kz.map PyData.int) vs (sortVals (dataKind s'.heap (kz.map PyData.int)) false kA.toList vs) := ⟨s'.heap, kA.toList, hal, rfl, each⟩
    refine fin _ H' _ c (inv_buts (cs := [L, kS]) I0 I' (fun d hd => ?_) (fun d hd => ?_) fun b o hb q => ?_) sm nL gL2 ko
    · rcases List.mem_cons.mp hd with z | z
      · rw [z]; exact hL
      · rw [List.mem_singleton.mp z]; exact hS
    · rcases List.mem_cons.mp hd with z | z
      · rw [z]; exact nL
      · rw [List.mem_singleton.mp z]; exact nS
    · exact kp2 b o (fun z => hb (by rw [z]; exact List.mem_cons_self ..)) (hidT_get q (hide b fun z => hb (by rw [z]; simp)))
end
end PL
end

section
set_option Elab.async false
set_option linter.all false
set_option maxRecDepth 100000
set_option maxHeartbeats 2000000
namespace PL
open PySem PySem.Spec PySem.W PyProof.Rows L2
theorem dataLe_int {β : Type} (k : β → Int) (x y : β) : dataLe false (fun b => PyData.int (k b)) x y = decide (k x ≤ k y) := by
  show (!PyProof.Rows.lexLt itemOrd [Sum.inl (k y)] [Sum.inl (k x)]) = _
  have e1 : itemOrd.blt (Sum.inl (k y)) (Sum.inl (k x)) = decide (k y < k x) := rfl
  have e2 : itemOrd.blt (Sum.inl (k x)) (Sum.inl (k y)) = decide (k x < k y) := rfl
  have e3 : PyProof.Rows.lexLt itemOrd ([] : List itemOrd.α) [] = false := rfl
  rw [PyProof.Rows.lex_cons, e1, e2, e3]
  by_cases c : k y < k x
  · have c2 : ¬ k x ≤ k y := by omega
    simp [c, c2]
  · have c2 : k x ≤ k y := by omega
    simp [c, c2]
theorem zip_2 {α β γ : Type} (g : β → γ) : ∀ (a : List α) (b : List β), a.length = b.length → ((a.zip b).map fun x => g x.2) = b.map g
  | [], [], _ => rfl
  | [], _ :: _, h => by simp at h
  | _ :: _, [], h => by simp at h
  | x :: a, y :: b, h => by
    rw [List.zip_cons_cons, List.map_cons, List.map_cons, zip_2 g a b (by simpa using h)]
theorem zip_1 {α β γ : Type} (g : α → γ) : ∀ (a : List α) (b : List β), a.length = b.length → ((a.zip b).map fun x => g x.1) = a.map g
  | [], [], _ => rfl
  | [], _ :: _, h => by simp at h
  | _ :: _, [], h => by simp at h
  | x :: a, y :: b, h => by
    rw [List.zip_cons_cons, List.map_cons, List.map_cons, zip_1 g a b (by simpa using h)]
theorem each_refs {xs : List (Addr × Int)} {out : List Value} (h : EachIs (fun v (x : Addr × Int) => v = .ref x.1) out xs) : out = xs.map fun x => Value.ref x.1 := by
  induction h with
  | nil => rfl
  | cons a _ ih => rw [a, ih]; rfl
theorem refs_each (xs : List (Addr × Int)) : EachIs (fun v (x : Addr × Int) => v = Value.ref x.1) (xs.map fun x => Value.ref x.1) xs := by
  induction xs with
  | nil => exact .nil
  | cons x xs ih => exact .cons rfl ih
section
variable {X : Cx} {pins : List (Addr × Obj)} {σ : L2.St} {H : Hp} {s : Shared}
/-- a thing newer than s0 gets known -/
theorem inv_claim {H0 : Hp} {s0 : Shared} {c : Addr} {o : HO} (I0 : L2.Inv X pins σ H0 s0) (I : L2.Inv X pins σ H s) (hc : s0.heap.objs.size ≤ c) (hn : H c = none) (ho : ObjOk X.prog X.w (upd H c o) s.heap c o) : L2.Inv X pins σ (upd H c o) s := by
  have ne : ∀ b o, s0.heap.get? b = some o → b ≠ c := fun b o e z => by
    have h1 := Heap.lt_size e
    rw [z] at h1
    exact absurd (Nat.lt_of_lt_of_le h1 hc) (Nat.lt_irrefl _)
  have ne0 : ∀ b o, X.s_0.heap.get? b = some o → b ≠ c := fun b o e z => by
    have h1 := Heap.lt_size e
    rw [z] at h1
    exact absurd (Nat.lt_of_lt_of_le h1 (Nat.le_trans I0.sz hc)) (Nat.lt_irrefl _)
  have up : ∀ {b : Addr} {u : HO}, H b = some u → upd H c o b = some u := fun {b u} e => by rw [upd_ne (ne_of_none e hn)]; exact e
  have un := I.base
  refine ⟨I.ok, I.os, I.bare, ⟨un.keep, un.slot, fun b ob q n x => by rw [upd_ne (ne0 b ob q)]; exact un.free b ob q n x, un.there, fun b xs e => up (un.tups b xs e), fun b o2 u e => up (un.frzs b o2 u e), fun b ps e => by
    obtain ⟨more, q⟩ := un.tbls b ps e
    exact ⟨more, up q⟩⟩, I.loc, I.cell, ?_, fun x d e => ?_, fun p hp => ?_, fun a u e => ?_, I.len⟩
  · rw [upd_ne (fun z => absurd (Nat.lt_of_lt_of_le I0.lt (by rw [z]; exact hc)) (Nat.lt_irrefl _))]
    exact I.free
  · obtain ⟨v, ob, q, _⟩ := I0.cell x d e
    rw [upd_ne (ne d ob q)]
    exact I.freeC x d e
  · obtain ⟨a1, a2, a3, a4, a5⟩ := I.pin p hp
    exact ⟨a1, by rw [upd_ne (ne _ _ (I0.pin p hp).1)]; exact a2, a3, a4, a5⟩
  · by_cases z : a = c
    · subst z
      rw [upd_same] at e
      cases e
      exact ho
    · rw [upd_ne z] at e
      exact (I.hok a u e).stay (fun d v _ q => q) (fun d q => up q) fun d xs q => up q
theorem not_frs {b : Addr} (I : L2.Inv X pins σ H s) (hb : s.heap.objs.size ≤ b) : b ∉ frs X.stack := fun z => by
  rcases List.mem_cons.mp (I.stkSub b z) with e | e
  · exact absurd (Nat.lt_of_lt_of_le I.lt (by rw [← e]; exact hb)) (Nat.lt_irrefl _)
  · exact I.nofs hb e
theorem sorted_dict {d f : Addr} {xs : List (NestedKey × Addr × V)} {kz : List Int} {Q : VK} {E : Value → Shared → Prop} (I : L2.Inv X pins σ H s) (hh : X.A.handled = none) (hd : H d = some (DicO X.w d xs)) (hlen : kz.length = xs.length) (hZ : xs.length ≤ sizeLine) (hu : X.A.in1.in1.units < cLine)
    (keepU : ∀ (i : Nat) (v : Value) (k : Int), (xs.map fun q => Value.ref q.2.1)[i]? = some v → kz[i]? = some k → ∀ (s1 : Shared) (H1 : Hp), L2.Inv X pins σ H1 s1 → Same H H1 → wpAny (model X.prog X.w) X.A.in1.in1 (call (.ref f) [v]) (fun r s2 => ∃ H2, L2.Inv X pins σ H2 s2 ∧ (∃ t, r = .int k t) ∧ Same H1 H2 ∧ ∀ b o, s1.heap.get? b = some o → H1 b = none → b ∉ frs X.stack → s2.heap.get? b = some o ∧ H2 b = none) (fun _ _ => False) s1)
    (fin : ∀ (p : Addr) (H2 : Hp) (ps : List (Addr × Int)), Same H H2 → H2 p = none → ps.Perm ((xs.map fun q => q.2.1).zip kz) → ps.Pairwise (fun x y => x.2 ≤ y.2) → Q (.ref p) (upd H2 p (.lst (ps.map fun x => V.ref x.1)))) :
    wpAny (model X.prog X.w) X.A (call (.builtin "sorted") [.ref d] [(Str.ofString "key", .ref f)]) (EP X pins σ Q) E s := by
  obtain ⟨⟨o, es, ep, h1, h2, h3, h4, h5, h6⟩, _⟩ := (show ObjOk X.prog X.w H s.heap d (DicO X.w d xs) from I.hok d _ hd)
  have el : es.size = xs.length := by rw [← Array.length_toList]; exact h4.length.symm
  refine call_function_entry_kw kind_sorted plain_sorted entry_sorted (ksk_s1 _ _) ?_
  unfold Builtin.«sorted»
  refine wpAny_bind (m := checkCount "sorted" 1 1 _) (wpAny_pure ?_)
  refine wpAny_bind (kdu_collect (A := X.A.in1) (kdl_raw h6 h2 h3) hh h1 (by rw [el]; exact hZ) fun h' tk acc hk hacc => ?_)
  have ha : acc.toList = xs.map fun q => Value.ref q.2.1 := by
    apply List.ext_getElem?
    intro i
    have hs : acc.size = es.size := hacc.1
    by_cases hi : i < xs.length
    · have hia : i < acc.size := by omega
      obtain ⟨en, e1, e2⟩ := hacc.2 i acc[i] (Array.getElem?_eq_getElem hia)
      have pr : ∀ {xs : List (NestedKey × Addr × V)} {es : List DictEntry} {i : Nat} {en : DictEntry}, Paired (entV X.w) xs es → es[i]? = some en → ∃ x, xs[i]? = some x ∧ entV X.w x en := by
        intro xs es i en hp
        induction hp generalizing i with
        | nil => intro e; cases e
        | cons a _ ih =>
          intro e
          cases i with
          | zero => cases e; exact ⟨_, rfl, a⟩
          | succ i => exact ih e
      obtain ⟨x, q1, q2⟩ := pr h4 (by rw [Array.getElem?_toList]; exact e1)
      rw [Array.getElem?_toList, Array.getElem?_eq_getElem hia, List.getElem?_map, q1, e2, q2.2.1]
      rfl
    · rw [List.getElem?_eq_none (by rw [Array.length_toList]; omega), List.getElem?_eq_none (by rw [List.length_map]; omega)]
  have al : acc.toList.length = xs.length := by rw [ha, List.length_map]
  have I1 : L2.Inv X pins σ H { s with heap := h', toks := tk } := I.kept hk
  -- the working list
  have gL : (h'.push (seqObj "list" acc.toList.toArray 0)).get? h'.objs.size = some (seqObj "list" acc.toList.toArray 0) := Heap.get?_push_size _ rfl
  refine wpAny_bind (wpAny_newList ?_ (by rw [al]; exact hZ))
  show wpAny _ _ _ _ _ { s with heap := h'.push (seqObj "list" acc.toList.toArray 0), toks := tk }
  refine wpAny_bind (wpAny_holding (wpAny_call_entry_kw slot_list_sort ⟨_, gL, rfl⟩ entry_list_sort ?body (ksk_l1 _ _)))
  case body =>
    rw [ksk_t1]
    unfold ksk_tree
    refine wpAny_bind (listItems_at gL rfl ?_)
    refine wpAny_bind (listUpdate_at gL rfl ?_ (by rw [List.size_toArray, al]; exact hZ) (Nat.zero_le _))
    obtain ⟨e1, ho1⟩ : ∃ e1, ((h'.push (seqObj "list" acc.toList.toArray 0)).update h'.objs.size (Obj.mapSeq fun _ => (#[] : Array Value))).get? h'.objs.size = some (seqObj "list" #[] e1) := ⟨_, get?_update_seq gL fun _ => #[]⟩
    have sb := Heap.SameBut.update (h'.push (seqObj "list" acc.toList.toArray 0)) h'.objs.size (Obj.mapSeq fun _ => (#[] : Array Value))
    refine wpAny_bind (seqEpoch_at ho1 rfl ?_)
    refine wpAny_bind (wpAny_newTuple ?_ (by simpa using (by rw [al]; exact hZ : acc.toList.length ≤ sizeLine)))
    refine wpAny_bind (wpAny_newList ?_ (Nat.zero_le _))
    refine wpAny_holding ?_
    have I2 : L2.Inv X pins σ H { s with heap := (h'.push (seqObj "list" acc.toList.toArray 0)).update h'.objs.size (Obj.mapSeq fun _ => (#[] : Array Value)), toks := tk } :=
      inv_but (s := { s with heap := h'.push (seqObj "list" acc.toList.toArray 0), toks := tk }) I1 (I1.kept (t' := tk) fun b o e => Heap.get?_push_of_some _ e) (Nat.le_refl _) (I1.hok.fresh (Nat.le_refl _)) fun b o hb e => (sb.2 b hb).trans e
    -- the heap with the copy and the keys' list
    generalize hg : (h'.push (seqObj "list" acc.toList.toArray 0)).update h'.objs.size (Obj.mapSeq fun _ => (#[] : Array Value)) = g at ho1 I2
    have sg : g.objs.size = h'.objs.size + 1 := by rw [← hg, Heap.size_update, size_push']
    have szT : (g.push (seqObj "tuple" acc.toList.toArray 0)).objs.size = h'.objs.size + 2 := by rw [size_push', sg]
    have I3 : L2.Inv X pins σ H { s with heap := (g.push (seqObj "tuple" acc.toList.toArray 0)).push (seqObj "list" #[] 0), toks := tk } :=
      I2.kept (t' := tk) fun b o e => Heap.get?_push_of_some _ (Heap.get?_push_of_some _ e)
    have gk : ((g.push (seqObj "tuple" acc.toList.toArray 0)).push (seqObj "list" #[] 0)).get? (g.push (seqObj "tuple" acc.toList.toArray 0)).objs.size = some (seqObj "list" #[] 0) := Heap.get?_push_size _ rfl
    have gl : ((g.push (seqObj "tuple" acc.toList.toArray 0)).push (seqObj "list" #[] 0)).get? h'.objs.size = some (seqObj "list" #[] e1) := Heap.get?_push_of_some _ (Heap.get?_push_of_some _ ho1)
    show wpAny _ _ (ksk_rest h'.objs.size (.ref f) false acc.toList.toArray e1 (.ref (g.push (seqObj "tuple" acc.toList.toArray 0)).objs.size)) _ _ { s with heap := (g.push (seqObj "tuple" acc.toList.toArray 0)).push (seqObj "list" #[] 0), toks := tk }
    have leK : h'.objs.size ≤ (g.push (seqObj "tuple" acc.toList.toArray 0)).objs.size := by rw [szT]; omega
    have neK : (g.push (seqObj "tuple" acc.toList.toArray 0)).objs.size ≠ h'.objs.size := by rw [szT]; omega
    refine key_rest (H0 := H) (s0 := { s with heap := h', toks := tk }) (kz := kz) I1 (Nat.le_refl _) leK neK (by rw [al]; exact hlen) (by rw [al]; exact hZ) hu ?_ ⟨H, #[], 0, I3, Same.refl _, I1.hok.fresh (Nat.le_refl _), I1.hok.fresh leK, gl, gk, .nil⟩ ?_
    · intro i v k e2 e3 s1 H1 J sm
      rw [ha] at e2
      refine wpAny_mono (keepU i v k e2 e3 s1 H1 J sm) (fun r s2 q => ?_) fun _ _ q => q
      obtain ⟨H2, J2, t, sm2, kp⟩ := q
      exact ⟨H2, J2, t, sm2, fun b o e n hb => kp b o e n (not_frs I1 hb)⟩
    · intro s2 H2 out c J sm nL g2 ko
      have bsk : ((xs.map fun q => q.2.1).zip kz).map (fun x => PyData.int x.2) = kz.map PyData.int := zip_2 PyData.int _ _ (by rw [List.length_map]; omega)
      have bsr : acc.toList = ((xs.map fun q => q.2.1).zip kz).map fun x => Value.ref x.1 := by
        rw [ha, zip_1 Value.ref _ _ (by rw [List.length_map]; omega), List.map_map]
        rfl
      rw [← bsk, bsr] at ko
      have eo := each_refs (keyedOut_each (fun x : Addr × Int => PyData.int x.2) ko (refs_each _))
      generalize hp : List.mergeSort ((xs.map fun q => q.2.1).zip kz) (dataLe false fun x : Addr × Int => PyData.int x.2) = ps at eo
      have perm : ps.Perm ((xs.map fun q => q.2.1).zip kz) := by rw [← hp]; exact List.mergeSort_perm _ _
      have srt : ps.Pairwise fun x y => x.2 ≤ y.2 := by
        rw [← hp]
        have := List.pairwise_mergeSort (le := dataLe false fun x : Addr × Int => PyData.int x.2) (by
          intro x y z h1 h2
          rw [dataLe_int (fun x : Addr × Int => x.2)] at h1 h2 ⊢
          simp only [decide_eq_true_eq] at h1 h2 ⊢
          omega) (by
          intro x y
          rw [dataLe_int (fun x : Addr × Int => x.2), dataLe_int (fun x : Addr × Int => x.2)]
          simp only [Bool.or_eq_true, decide_eq_true_eq]
          omega) ((xs.map fun q => q.2.1).zip kz)
        refine this.imp fun {x y} h => ?_
        rw [dataLe_int (fun x : Addr × Int => x.2)] at h
        exact of_decide_eq_true h
      have pl : ps.length ≤ sizeLine := by
        rw [perm.length_eq, List.length_zip, List.length_map]
        omega
      refine ⟨.none, rfl, wpAny_pure ⟨_, rfl, .ref h'.objs.size, upd H2 h'.objs.size (.lst (ps.map fun x => V.ref x.1)), inv_claim I1 J (Nat.le_refl _) nL ⟨by rw [List.length_map]; exact pl, out, c, ?_, g2⟩, rfl, fin _ H2 ps sm nL perm srt⟩⟩
      rw [eo]
      have vr : ∀ ps : List (Addr × Int), Vals (ps.map fun x => V.ref x.1) (ps.map fun x => Value.ref x.1) := by
        intro ps
        induction ps with
        | nil => exact .nil
        | cons p ps ih => exact .cons rfl ih
      exact vr ps
end
end PL
end

section
set_option Elab.async false
set_option linter.all false
set_option maxRecDepth 100000
set_option maxHeartbeats 2000000
namespace PL
open PySem PySem.Spec PySem.W PyProof.Rows L2 LamX
section
variable {X : Cx}
/-- the list p of the keys of the dict in the slot id, in the order of the ints kz that the lambda gives -/
def tSortL (w : World) (T : List (Addr × Str)) (id ib : Nat) (tb : TE) : TE := fun σ H Q => ∃ (d : Addr) (xs : List (NestedKey × Addr × V)) (kz : List Int) (mv : V), σ[id]? = some (some (.ref d)) ∧ H d = some (DicO w d xs) ∧ kz.length = xs.length ∧ xs.length ≤ sizeLine ∧ σ[ib]? = some (some mv) ∧ Tabs T H ∧
  (∀ (i : Nat) (q : NestedKey × Addr × V) (k : Int), xs[i]? = some q → kz[i]? = some k → ∀ H1, ExtN H H1 → tb [some (.ref q.2.1), some mv] H1 fun v H2 => v = .int k ∧ Same H1 H2) ∧
  ∀ (p : Addr) (H1 H2 : Hp) (ps : List (Addr × Int)), ExtN H H1 → Tabs T H1 → Same H1 H2 → H2 p = none → ps.Perm ((xs.map fun q => q.2.1).zip kz) → ps.Pairwise (fun x y => x.2 ≤ y.2) → Q (.ref p) (upd H2 p (.lst (ps.map fun x => V.ref x.1)))
theorem pe_sortL {T : List (Addr × Str)} {c P : Addr} {k id ib : Nat} {y a b : Str} {params : Arguments} {body : Expr} {scope : Scope} {p py lpos kpos pos : Pos} {tb : TE} (hg : Gl X "sorted") (hm : X.mg "sorted" = none)
    (TB : TabB X.base X.mg c P) (hcode : X.env.code = .ref c) (hmT : (P, X.env.qual ++ "<lambda>") ∈ T) (hu : ∀ p ∈ T, p.1 = P → p.2 = X.env.qual ++ "<lambda>") (hr : Room (k + 3) X.A) (hstk : X.env.locals ∈ frs X.stack) (hfs : ∀ b ∈ X.fs, b ∈ frs X.stack)
    (L : Lam1 X.env.scope scope a) (hdef : defaultsOf params X.env = ([], [])) (hbind : ∀ (q : Str) (cl : List (Str × Addr)) (pm cv ctv u : Value), bindArgs (kla_fn "<lambda>" q params body scope cl pm cv ctv) ⟨[u], []⟩ = pure [(a, u)])
    (hy : X.N[id]? = some y) (hyv : Vis X.env.scope y) (hb : X.N[ib]? = some b) (hab : a ≠ b) (hbody : ∀ (A : Around) (s : Shared) (H : Hp) (f c' : Addr), Room k (A.deeper (lenv X scope s.heap.objs.size f c')) → PE (lcx X A s H scope f c' [a, b]) body tb)
    (hd : (y == ("__debug__" : Str)) = false := by decide) (hcd : (y == ("__classdict__" : Str)) = false := by decide)
    (hs : starEach [.Name y py] X.env = (false, eval (.Name y py) X.env) :: starEach [] X.env := by rfl)
    (he : backTo pos (starEach [.Name y py] X.env) = (false, eval (.Name y py) X.env) :: backTo pos (starEach [] X.env) := by rfl) (hpl : (backTo pos (starEach [.Name y py] X.env)).any (·.1) = false := by rfl)
    (hall : (backToKw pos (keywordEach [⟨some "key", .Lambda params body scope lpos, kpos⟩] X.env)).all (·.1.isSome) = true := by rfl) (hnone : (backToKw pos (keywordEach [⟨some "key", .Lambda params body scope lpos, kpos⟩] X.env)).any (·.1.isNone) = false := by rfl)
    (hks : (backToKw pos (keywordEach [⟨some "key", .Lambda params body scope lpos, kpos⟩] X.env)).filterMap (·.1) = [Str.ofString "key"] := by rfl) :
    PE X (.Call (.Name "sorted" p) [.Name y py] [⟨some "key", .Lambda params body scope lpos, kpos⟩] pos) (tSortL X.w T id ib tb) := by
  refine ⟨fun pins s σ H Q I h => ?_⟩
  obtain ⟨d, xs, kz, mv, hσd, hd0, hlen, hZ, hσm, hT, htb, hfin⟩ := h
  refine wpAny_Call_Name_kw (ld_blt I hg hm boot_sorted ?_)
  refine PyProof.Rows.callWith_kw (thn ((pa_cons (pe_var hy hyv hd hcd) pa_nil hs).run pos pins s σ H (fun vs H1 => vs = [.ref d] ∧ H1 = H) I ⟨.ref d, hσd, rfl, rfl⟩) fun us s1 ⟨vs, H1, I1, r1, e1, e2⟩ => ?_) he hpl hall hnone
  subst e1 e2
  rw [Vals.ref1 r1]
  rw [hks]
  show wpAny _ _ (evalAll [do let v ← eval (.Lambda params body scope lpos) X.env; standAt pos; pure v]) _ _ s1
  refine wpAny_evalAll_cons (wpAny_bind (lam_make2 I1 TB hcode hmT hu hT hdef (L.has I1.ok) fun f c' pm ctv H2 s2 I2 eN T2 hf hfn hfr hco => wpAny_bind (wpAny_standAt (wpAny_pure (wpAny_evalAll_nil ?_)))))
  have Ip : L2.Inv X (pins ++ [(f, kla_obj "<lambda>" (X.env.qual ++ "<lambda>") params body scope (cloFrom X.env.cells scope.names []) pm c' ctv)]) σ H2 s2 := I2.pins_of fun q hq => by
    rcases List.mem_append.mp hq with z | z
    · exact I2.pin q (List.mem_append_right _ z)
    · rw [List.mem_singleton.mp z]
      refine ⟨hf, hfn, fun e => hfr (by have e2 : f = X.env.locals := e; rw [e2]; exact hstk), fun e => hfr (hfs _ e), fun v e => by cases e⟩
  refine wpAny_mono (sorted_dict Ip (by rw [hr.hd]) (eN d _ hd0 fun ps z => by unfold DicO at z; cases z) hlen hZ (by have := hr.un; show X.A.units + 1 + 1 < cLine; omega) (fun i v k e3 e4 s3 H3 J sm => ?_) fun p H4 ps sm np pm2 pw => hfin p H2 H4 ps eN T2 sm np pm2 pw) (fun u s3 q => ?_) fun e s3 q => q
  · rw [List.getElem?_map] at e3
    cases e5 : xs[i]? with
    | none => rw [e5] at e3; cases e3
    | some q =>
      rw [e5] at e3
      cases e3
      have hfJ := (J.pin (f, kla_obj "<lambda>" (X.env.qual ++ "<lambda>") params body scope (cloFrom X.env.cells scope.names []) pm c' ctv) (List.mem_append_right _ (List.mem_append_right _ (List.mem_singleton.mpr rfl)))).1
      have rc := lam1_call (X := X) (A := X.A.in1.in1) (Q := fun v H2 => v = .int k ∧ Same H3 H2) (E := C8.E0) (v := .ref q.2.1) (u := .ref q.2.1) (tb := tb) J L J.env0.in1.in1 (hr.in1.in1) hfJ (sm _ _ hco) (hbind _ _ _ _ _ _) hb hσm rfl hab (fun h₁ hr' => hbody _ _ _ _ _ hr') (htb i q k e5 e4 H3 (eN.trans (.of fun b o e => sm b o e)))
      refine wpAny_call (codeAny_mono rc fun r s4 hq => ?_)
      cases r with
      | error e => exact (show False from hq).elim
      | ok fl =>
        cases fl with
        | ret u =>
          obtain ⟨v, H', os, bare, un, hok, r, ev, sm2⟩ := hq
          subst ev
          exact ⟨H', J.call' (ch := []) os un hok bare (fun _ z => nomatch z), r, sm2, fun b o e n hb2 => ⟨un.keep b o e n hb2 (by simp), un.free b o e n (by simp)⟩⟩
        | next => exact False.elim hq
        | brk => exact False.elim hq
        | cont => exact False.elim hq
  · obtain ⟨v, H', J, r, q⟩ := q
    exact ⟨v, H', J.pins_of fun p hp => J.pin p (List.mem_append_right _ (List.mem_append_left _ hp)), r, q⟩
end
end PL
end

section
set_option Elab.async false
set_option linter.all false
set_option maxRecDepth 100000
set_option maxHeartbeats 0
namespace K96
open PySem PySem.Spec PyProof.Rows L2 PL
def top (i : Nat) : Stmt := PySem.Challenge.pw_partnerlots_k96_whole_exchange_bounds_sp.main.body.getD i (.Pass ⟨0, 0, 0, 0⟩)
abbrev s_is_whole : Stmt := top 6
abbrev s_is_number : Stmt := top 7
abbrev s_is_name_text : Stmt := top 8
abbrev s_is_name_row : Stmt := top 9
abbrev s_is_rising : Stmt := top 10
abbrev s_is_pair : Stmt := top 11
abbrev s_is_triple : Stmt := top 12
abbrev s_class_total : Stmt := top 14
abbrev s_all_arrangements : Stmt := top 15
abbrev s_numbered : Stmt := top 16
abbrev s_finest_below : Stmt := top 17
abbrev s_refines : Stmt := top 18
abbrev s_tidied : Stmt := top 20
abbrev s_has : Stmt := top 21
abbrev s_common_sizes : Stmt := top 22
abbrev s_least_of : Stmt := top 23
abbrev s_from_to : Stmt := top 24
abbrev s_is_sizes : Stmt := top 25
abbrev s_full_row : Stmt := top 27
abbrev s_face_with : Stmt := top 28
abbrev s_whole_face : Stmt := top 29
abbrev s_meet_faces : Stmt := top 30
abbrev s_no_cells : Stmt := top 31
abbrev s_is_face : Stmt := top 32
abbrev s_is_region : Stmt := top 34
abbrev s_are_names : Stmt := top 36
abbrev s_is_question : Stmt := top 37
abbrev s_decided_board : Stmt := top 38
abbrev s_answers : Stmt := top 39
abbrev s_is_shared_question : Stmt := top 40
abbrev s_let_by : Stmt := top 42
abbrev s_told_by : Stmt := top 43
abbrev s_passed_on : Stmt := top 44
abbrev s_are_faces : Stmt := top 45
abbrev s_exchange : Stmt := top 46
abbrev s_bounds_of : Stmt := top 48
abbrev s_sizes_between : Stmt := top 49
abbrev s_fits : Stmt := top 50
abbrev s_face_keeping : Stmt := top 51
abbrev s_met_faces : Stmt := top 53
abbrev s_greatest_mark : Stmt := top 55
abbrev s_start_state : Stmt := top 56
abbrev s_has_some : Stmt := top 57
abbrev s_is_ended : Stmt := top 58
abbrev s_ender : Stmt := top 59
abbrev s_name_partings : Stmt := top 60
abbrev s_size_partings : Stmt := top 61
abbrev s_partings : Stmt := top 62
abbrev s_width : Stmt := top 63
abbrev s_all_states : Stmt := top 64
abbrev s_check_split_faces : Stmt := top 66
abbrev s_best_parting : Stmt := top 67
abbrev s_best_trees : Stmt := top 68
abbrev s_fewest_of : Stmt := top 69
abbrev s_split_tree : Stmt := top 70
abbrev s_fewest_ends : Stmt := top 71
abbrev s_ends_of : Stmt := top 72
abbrev s_split_answers : Stmt := top 73
abbrev s_is_split_end : Stmt := top 74
abbrev s_judge_split : Stmt := top 75
abbrev s__law_pot : Stmt := top 77
abbrev s__law_draw : Stmt := top 78
abbrev s__law_some_names : Stmt := top 79
abbrev s__law_names : Stmt := top 80
abbrev s__law_arrangements : Stmt := top 81
abbrev s__law_has : Stmt := top 82
abbrev s__law_row_of : Stmt := top 83
abbrev s__law_meet_row : Stmt := top 84
abbrev s__law_meet : Stmt := top 85
abbrev s__law_no_cell : Stmt := top 86
abbrev s__law_same_marks : Stmt := top 87
abbrev s__law_drawn_face : Stmt := top 88
abbrev s__law_met : Stmt := top 89
abbrev s__law_lets : Stmt := top 90
abbrev s__law_told : Stmt := top 91
abbrev s__law_exchange : Stmt := top 92
abbrev s__law_fit : Stmt := top 93
abbrev s__law_likes : Stmt := top 94
abbrev s_law : Stmt := top 95
def HF (K : PySem.W.Frag) (mg : Str → Option Value) (x : Str) (st : Stmt) : Prop := ∃ f fd, FunD K x x (defArgs st) (defBody st) (defScope st) [] [] f fd ∧ mg x = some (.ref f)
/-- what the walk knows of the program -/
structure HD (P : Program) (w : World) (K : PySem.W.Frag) (mg : Str → Option Value) (base : Heap) : Prop where
  f_is_whole : HF K mg "is_whole" s_is_whole
  f_is_number : HF K mg "is_number" s_is_number
  f_is_name_text : HF K mg "is_name_text" s_is_name_text
  f_is_name_row : HF K mg "is_name_row" s_is_name_row
  f_is_rising : HF K mg "is_rising" s_is_rising
  f_is_pair : HF K mg "is_pair" s_is_pair
  f_is_triple : HF K mg "is_triple" s_is_triple
  f_class_total : HF K mg "class_total" s_class_total
  f_all_arrangements : HF K mg "all_arrangements" s_all_arrangements
  f_numbered : HF K mg "numbered" s_numbered
  f_finest_below : HF K mg "finest_below" s_finest_below
  f_refines : HF K mg "refines" s_refines
  f_tidied : HF K mg "tidied" s_tidied
  f_has : HF K mg "has" s_has
  f_common_sizes : HF K mg "common_sizes" s_common_sizes
  f_least_of : HF K mg "least_of" s_least_of
  f_from_to : HF K mg "from_to" s_from_to
  f_is_sizes : HF K mg "is_sizes" s_is_sizes
  f_full_row : HF K mg "full_row" s_full_row
  f_face_with : HF K mg "face_with" s_face_with
  f_whole_face : HF K mg "whole_face" s_whole_face
  f_meet_faces : HF K mg "meet_faces" s_meet_faces
  f_no_cells : HF K mg "no_cells" s_no_cells
  f_is_face : HF K mg "is_face" s_is_face
  f_is_region : HF K mg "is_region" s_is_region
  f_are_names : HF K mg "are_names" s_are_names
  f_is_question : HF K mg "is_question" s_is_question
  f_decided_board : HF K mg "decided_board" s_decided_board
  f_answers : HF K mg "answers" s_answers
  f_is_shared_question : HF K mg "is_shared_question" s_is_shared_question
  f_let_by : HF K mg "let_by" s_let_by
  f_told_by : HF K mg "told_by" s_told_by
  f_passed_on : HF K mg "passed_on" s_passed_on
  f_are_faces : HF K mg "are_faces" s_are_faces
  f_exchange : HF K mg "exchange" s_exchange
  f_bounds_of : HF K mg "bounds_of" s_bounds_of
  f_sizes_between : HF K mg "sizes_between" s_sizes_between
  f_fits : HF K mg "fits" s_fits
  f_face_keeping : HF K mg "face_keeping" s_face_keeping
  f_met_faces : HF K mg "met_faces" s_met_faces
  f_greatest_mark : HF K mg "greatest_mark" s_greatest_mark
  f_start_state : HF K mg "start_state" s_start_state
  f_has_some : HF K mg "has_some" s_has_some
  f_is_ended : HF K mg "is_ended" s_is_ended
  f_ender : HF K mg "ender" s_ender
  f_name_partings : HF K mg "name_partings" s_name_partings
  f_size_partings : HF K mg "size_partings" s_size_partings
  f_partings : HF K mg "partings" s_partings
  f_width : HF K mg "width" s_width
  f_all_states : HF K mg "all_states" s_all_states
  f_check_split_faces : HF K mg "check_split_faces" s_check_split_faces
  f_best_parting : HF K mg "best_parting" s_best_parting
  f_best_trees : HF K mg "best_trees" s_best_trees
  f_fewest_of : HF K mg "fewest_of" s_fewest_of
  f_split_tree : HF K mg "split_tree" s_split_tree
  f_fewest_ends : HF K mg "fewest_ends" s_fewest_ends
  f_ends_of : HF K mg "ends_of" s_ends_of
  f_split_answers : HF K mg "split_answers" s_split_answers
  f_is_split_end : HF K mg "is_split_end" s_is_split_end
  f_judge_split : HF K mg "judge_split" s_judge_split
  f__law_pot : HF K mg "_law_pot" s__law_pot
  f__law_draw : HF K mg "_law_draw" s__law_draw
  f__law_some_names : HF K mg "_law_some_names" s__law_some_names
  f__law_names : HF K mg "_law_names" s__law_names
  f__law_arrangements : HF K mg "_law_arrangements" s__law_arrangements
  f__law_has : HF K mg "_law_has" s__law_has
  f__law_row_of : HF K mg "_law_row_of" s__law_row_of
  f__law_meet_row : HF K mg "_law_meet_row" s__law_meet_row
  f__law_meet : HF K mg "_law_meet" s__law_meet
  f__law_no_cell : HF K mg "_law_no_cell" s__law_no_cell
  f__law_same_marks : HF K mg "_law_same_marks" s__law_same_marks
  f__law_drawn_face : HF K mg "_law_drawn_face" s__law_drawn_face
  f__law_met : HF K mg "_law_met" s__law_met
  f__law_lets : HF K mg "_law_lets" s__law_lets
  f__law_told : HF K mg "_law_told" s__law_told
  f__law_exchange : HF K mg "_law_exchange" s__law_exchange
  f__law_fit : HF K mg "_law_fit" s__law_fit
  f__law_likes : HF K mg "_law_likes" s__law_likes
  f_law : HF K mg "law" s_law
  b_abs : mg "abs" = none
  b_bool : mg "bool" = none
  b_int : mg "int" = none
  b_isinstance : mg "isinstance" = none
  b_len : mg "len" = none
  b_list : mg "list" = none
  b_max : mg "max" = none
  b_min : mg "min" = none
  b_range : mg "range" = none
  b_reversed : mg "reversed" = none
  b_set : mg "set" = none
  b_sorted : mg "sorted" = none
  b_str : mg "str" = none
  b_tuple : mg "tuple" = none
  b_zip : mg "zip" = none
  g_SMALL : ∃ t, mg "SMALL" = some (.str "abcdefghijklmnopqrstuvwxyz" t)
  g_FIGURES : ∃ t, mg "FIGURES" = some (.str "0123456789" t)
end K96
end

section
set_option Elab.async false
set_option linter.all false
set_option maxRecDepth 100000
set_option maxHeartbeats 2000000
namespace K96
open PySem PySem.Spec PyProof.Rows L2 PL
def z_SMALL : Str := "abcdefghijklmnopqrstuvwxyz"
def z_FIGURES : Str := "0123456789"
abbrev arrD (a : List Int) : D := .tup (a.map D.int)
abbrev Row := List Int × Int
abbrev rowD (r : Row) : D := .tup [.tup (r.1.map D.int), .int r.2]
abbrev Face := List Str × List Row
abbrev faceD (f : Face) : D := .tup [.tup (f.1.map D.str), .tup (f.2.map rowD)]
abbrev facesD (fs : List Face) : D := .tup (fs.map faceD)
theorem ints_inj : ∀ {a b : List Int}, a.map D.int = b.map D.int → a = b
  | [], [], _ => rfl
  | [], _ :: _, h => by cases h
  | _ :: _, [], h => by cases h
  | x :: a, y :: b, h => by
    rw [List.map_cons, List.map_cons] at h
    injection h with h1 h2
    injection h1 with h1
    rw [h1, ints_inj h2]
theorem strs_inj : ∀ {a b : List Str}, a.map D.str = b.map D.str → a = b
  | [], [], _ => rfl
  | [], _ :: _, h => by cases h
  | _ :: _, [], h => by cases h
  | x :: a, y :: b, h => by
    rw [List.map_cons, List.map_cons] at h
    injection h with h1 h2
    injection h1 with h1
    rw [h1, strs_inj h2]
@[simp] theorem ints_eq {a b : List Int} : (a.map D.int = b.map D.int) = (a = b) := propext ⟨ints_inj, fun h => by rw [h]⟩
@[simp] theorem strs_eq {a b : List Str} : (a.map D.str = b.map D.str) = (a = b) := propext ⟨strs_inj, fun h => by rw [h]⟩
@[simp] theorem ints_nil {a : List Int} : (a.map D.int = []) = (a = []) := by cases a <;> simp
@[simp] theorem cl_ints {n : Nat} {a : List Int} : (a.map D.int).all (D.cl n) = true := by simp [List.all_eq_true]
@[simp] theorem kok_ints {n : Nat} {a : List Int} : (a.map D.int).all (D.kok n) = true := by simp [List.all_eq_true]
@[simp] theorem nl_ints {n : Nat} {a : List Int} : (a.map D.int).all (D.nl n) = true := by simp [List.all_eq_true]
theorem int_mem {i : Int} {a : List Int} : (D.int i ∈ a.map D.int) ↔ i ∈ a := by simp
@[simp] theorem atI_ints {a : List Int} {i : Int} : atI (a.map D.int) i = (atI a i).map D.int := by
  unfold atI
  simp [Option.map_bind, Function.comp_def]
@[simp] theorem atI_cast {α : Type} {xs : List α} {i : Nat} : atI xs (i : Int) = xs[i]? := by
  by_cases h : i < xs.length
  · simp [atI, ixN, h]
  · simp [atI, ixN, h]
@[simp] theorem atI_zero {α : Type} {x : α} {xs : List α} : atI (x :: xs) 0 = some x := atI_cast (i := 0)
@[simp] theorem atI_one {α : Type} {x y : α} {xs : List α} : atI (x :: y :: xs) 1 = some y := atI_cast (i := 1)
@[simp] theorem atI_two {α : Type} {x y z : α} {xs : List α} : atI (x :: y :: z :: xs) 2 = some z := atI_cast (i := 2)
@[simp] theorem atI_last {α : Type} {xs : List α} {y : α} : atI (xs ++ [y]) (-1) = some y := by
  have e : (-1 + ((xs.length : Int) + 1)).toNat = xs.length := by omega
  have h : (1 : Int) ≤ (xs.length : Int) + 1 := by omega
  simp [atI, ixN, h, e]
def T_is_whole : FT := fun ds k => ∃ i, ds = [.int i] ∧ k (.bl true)
def T_is_number : FT := fun ds k => ∃ i lo hi, ds = [.int i, .int lo, .int hi] ∧ k (.bl (decide (lo ≤ i ∧ i ≤ hi)))
def T_is_pair : FT := fun ds k => ∃ xs, ds = [.tup xs] ∧ k (.bl (decide (xs.length = 2)))
def T_is_triple : FT := fun ds k => ∃ xs, ds = [.tup xs] ∧ k (.bl (decide (xs.length = 3)))
-- is_whole: 0 value
def t_is_whole : TXS := (sRet (xAnd (xIsi isIntD (rVar 0)) (xNot (rOf (xIsi isBlD (rVar 0))))))
theorem pure_is_whole : ∀ ds k, ds.length = 1 → T_is_whole ds k → t_is_whole { nx := fun _ => k .non, rt := k } (startP 1 ds) := by
  rintro ds k hl ⟨i, rfl, hk⟩
  simp [t_is_whole, startP, isDicD, isIntD, isBlD]
  exact hk
def t_is_number : TXS := (sRet (xAnd (xFn 1 T_is_whole (aCons (rVar 0) aNil)) (xChain leD leD (xVar 1) (xVar 0) (xVar 2))))
theorem pure_is_number : ∀ ds k, ds.length = 3 → T_is_number ds k → t_is_number { nx := fun _ => k .non, rt := k } (startP 3 ds) := by
  rintro ds k hl ⟨i, lo, hi, rfl, hk⟩
  simp [t_is_number, startP, T_is_whole]
  by_cases h1 : lo ≤ i <;> simp [h1] at hk ⊢ <;> exact hk
def t_is_pair : TXS := (sRet (xAnd (xIsi isTupD (rVar 0)) (xBin eqD (xCall lenD (aCons (rVar 0) aNil)) (xC (.int 2)))))
theorem pure_is_pair : ∀ ds k, ds.length = 1 → T_is_pair ds k → t_is_pair { nx := fun _ => k .non, rt := k } (startP 1 ds) := by
  rintro ds k hl ⟨xs, rfl, hk⟩
  simp [t_is_pair, startP, isDicD, isTupD]
  have e : decide ((xs.length : Int) = 2) = decide (xs.length = 2) := decide_eq_decide.mpr (by omega)
  rw [e]; exact hk
def t_is_triple : TXS := (sRet (xAnd (xIsi isTupD (rVar 0)) (xBin eqD (xCall lenD (aCons (rVar 0) aNil)) (xC (.int 3)))))
theorem pure_is_triple : ∀ ds k, ds.length = 1 → T_is_triple ds k → t_is_triple { nx := fun _ => k .non, rt := k } (startP 1 ds) := by
  rintro ds k hl ⟨xs, rfl, hk⟩
  simp [t_is_triple, startP, isDicD, isTupD]
  have e : decide ((xs.length : Int) = 3) = decide (xs.length = 3) := decide_eq_decide.mpr (by omega)
  rw [e]; exact hk
/-- a right name -/
def GoodN (x : Str) : Prop := ∃ c cs, x.cps.toList = c :: cs ∧ cs.length ≤ 7 ∧ c ∈ z_SMALL.cps.toList ∧ ∀ d ∈ c :: cs, d ∈ z_SMALL.cps.toList ∨ d ∈ z_FIGURES.cps.toList
def T_is_name_text : FT := fun ds k => ∃ x, ds = [.str x] ∧ GoodN x ∧ k (.bl true)
def t_is_name_text : TXS := (sSeq (sIf (tOr1 (tNot1 (tB1 (xIsi isStrD (rVar 0)))) (tNot1 (tB1 (xChain leD leD (xC (.int 1)) (xCall lenD (aCons (rVar 0) aNil)) (xC (.int 8)))))) (sRet (xC (.bl false))) sNext) (sSeq (sIf (tB1 (xIn (xIx (rVar 0) (xC (.int 0))) (rOf (xC (.str z_SMALL))) (inD true))) (sRet (xC (.bl false))) sNext) (sSeq (sFor (iStrP (xVar 0)) (gN 1) (sIf (tAnd1 (tB1 (xIn (xVar 1) (rOf (xC (.str z_SMALL))) (inD true))) (tB1 (xIn (xVar 1) (rOf (xC (.str z_FIGURES))) (inD true)))) (sRet (xC (.bl false))) sNext)) (sRet (xC (.bl true))))))
theorem pure_is_name_text : ∀ ds k, ds.length = 1 → T_is_name_text ds k → t_is_name_text { nx := fun _ => k .non, rt := k } (startP 2 ds) := by
  rintro ds k hl ⟨x, rfl, ⟨c, cs, e, hcs, hc, hall⟩, hk⟩
  have lx : x.length = cs.length + 1 := by
    show x.cps.size = _
    rw [← Array.length_toList, e]; rfl
  have l1 : (1 : Int) ≤ (x.length : Int) := by omega
  have l2 : (x.length : Int) ≤ 8 := by omega
  have sm : Sm x.length := by show x.length ≤ 100000; omega
  have ix : ∀ k : D → Prop, ixD (.str x) (.int 0) k = (Sm x.length ∧ k (.str ⟨#[c]⟩)) := fun k => by
    show (Sm x.length ∧ match atI x.cps.toList 0 with | some c => k (.str ⟨#[c]⟩) | none => False) = _
    rw [e, atI_zero]
  have hc' : c ∈ z_SMALL.cps := by simpa using hc
  simp [t_is_name_text, startP, isDicD, isStrD, l1, l2, sm, ix, hc']
  unfold PL.signs
  refine loopP_enc _ (fun xs ρ => (∀ d ∈ xs, d ∈ z_SMALL.cps.toList ∨ d ∈ z_FIGURES.cps.toList) ∧ ∃ y, ρ = [some (.d (.str x)), y]) (fun ρ _ => ?_) (fun d ds ρ C hC h => ?_) _ _ ⟨?_, _, rfl⟩
  · exact hk
  · obtain ⟨h1, y, rfl⟩ := h
    have h2 : C [some (.d (.str x)), some (.d (.str ⟨#[d]⟩))] := hC _ ⟨fun z hz => h1 z (List.mem_cons_of_mem _ hz), _, rfl⟩
    have h3 := h1 d (List.mem_cons_self ..)
    by_cases q : d ∈ z_SMALL.cps.toList
    · have q' : d ∈ z_SMALL.cps := by simpa using q
      simp [q']
      exact h2
    · have q' : d ∉ z_SMALL.cps := by simpa using q
      have q2 : d ∈ z_FIGURES.cps := by simpa using h3.resolve_left q
      simp [q', q2]
      exact h2
  · rw [e]; exact hall
def upI (a : List Int) : Bool := (List.range (a.length - 1)).all fun i => decide (a.getD i 0 < a.getD (i + 1) 0)
def RisS (xs : List Str) : Prop := xs.Pairwise fun x y => x.cps.toList < y.cps.toList
def T_is_rising : FT := fun ds k => (∃ ns : List Int, ds = [.tup (ns.map D.int)] ∧ ns.length ≤ 1000 ∧ ns.Pairwise (· < ·) ∧ k (.bl true)) ∨ ∃ xs : List Str, ds = [.tup (xs.map D.str)] ∧ xs.length ≤ 1000 ∧ RisS xs ∧ k (.bl true)
def t_is_rising : TXS := (sSeq (sFor (iR2 (xC (.int 1)) (xCall lenD (aCons (rVar 0) aNil))) (gN 1) (sIf (tNot1 (tB1 (xBin ltD (xIx (rVar 0) (xBin subD (xVar 1) (xC (.int 1)))) (xIx (rVar 0) (xVar 1))))) (sRet (xC (.bl false))) sNext)) (sRet (xC (.bl true))))
theorem rise_loop {k : D → Prop} {xs : List D} (hl : xs.length ≤ 1000) (h : ∀ (i : Nat) (x y : D), xs[i]? = some x → xs[i + 1]? = some y → ∀ C : D → Prop, C (.bl true) → ltD x y C) (hk : k (.bl true)) : t_is_rising { nx := fun _ => k .non, rt := k } (startP 2 [.tup xs]) := by
  have s2 : Sm2 1 (xs.length : Int) := ⟨by omega, by omega, by omega, by omega⟩
  simp [t_is_rising, startP, s2]
  unfold rngD
  refine loopP_enc _ (fun js ρ => (∀ j ∈ js, j + 1 < xs.length) ∧ ∃ y, ρ = [some (.d (.tup xs)), y]) (fun ρ _ => ?_) (fun j js ρ C hC q => ?_) _ _ ⟨fun j hj => ?_, _, rfl⟩
  · exact hk
  · obtain ⟨h1, y, rfl⟩ := q
    have hj := h1 j (List.mem_cons_self ..)
    have h2 : C [some (.d (.tup xs)), some (.d (.int (1 + (j : Int))))] := hC _ ⟨fun z hz => h1 z (List.mem_cons_of_mem _ hz), _, rfl⟩
    have e1 : (1 + (j : Int)) - 1 = ((j : Nat) : Int) := by omega
    have e2 : (1 + (j : Int)) = ((j + 1 : Nat) : Int) := by omega
    have g1 : xs[j]? = some xs[j] := List.getElem?_eq_getElem (by omega)
    have g2 : xs[j + 1]? = some xs[j + 1] := List.getElem?_eq_getElem hj
    simp only [e2] at h2 ⊢
    have e3 : (((j + 1 : Nat) : Int)) - 1 = ((j : Nat) : Int) := by omega
    simp only [s_gN, s_sIf, s_tNot1, s_tB1, s_xBin, s_xIx, s_rVar, s_xVar, s_subI, s_xC, List.set_cons_succ, List.set_cons_zero, List.getElem?_cons_zero, List.getElem?_cons_succ, s_xP, s_xD, PV.dat_d, s_ixT, e3, atI_cast, g1, g2]
    refine h j _ _ g1 g2 _ ?_
    simpa using h2
  · have := List.mem_range.mp hj
    omega
theorem pure_is_rising : ∀ ds k, ds.length = 1 → T_is_rising ds k → t_is_rising { nx := fun _ => k .non, rt := k } (startP 2 ds) := by
  rintro ds k hl (⟨ns, rfl, h1, h2, hk⟩ | ⟨xs, rfl, h1, h2, hk⟩)
  · refine rise_loop (by simpa using h1) (fun i x y e1 e2 C hC => ?_) hk
    rw [List.getElem?_map] at e1 e2
    cases q1 : ns[i]? with
    | none => rw [q1] at e1; cases e1
    | some a =>
      cases q2 : ns[i + 1]? with
      | none => rw [q2] at e2; cases e2
      | some b =>
        rw [q1] at e1; rw [q2] at e2; cases e1; cases e2
        have lt : a < b := by
          obtain ⟨w1, rfl⟩ := List.getElem?_eq_some_iff.mp q1
          obtain ⟨w2, rfl⟩ := List.getElem?_eq_some_iff.mp q2
          exact List.pairwise_iff_getElem.mp h2 _ _ _ _ (Nat.lt_succ_self _)
        simpa [lt] using hC
  · refine rise_loop (by simpa using h1) (fun i x y e1 e2 C hC => ?_) hk
    rw [List.getElem?_map] at e1 e2
    cases q1 : xs[i]? with
    | none => rw [q1] at e1; cases e1
    | some a =>
      cases q2 : xs[i + 1]? with
      | none => rw [q2] at e2; cases e2
      | some b =>
        rw [q1] at e1; rw [q2] at e2; cases e1; cases e2
        have lt : a.cps.toList < b.cps.toList := by
          obtain ⟨w1, rfl⟩ := List.getElem?_eq_some_iff.mp q1
          obtain ⟨w2, rfl⟩ := List.getElem?_eq_some_iff.mp q2
          exact List.pairwise_iff_getElem.mp h2 _ _ _ _ (Nat.lt_succ_self _)
        simpa [lt] using hC
def T_is_name_row : FT := fun ds k => ∃ (xs : List Str) (m : Int), ds = [.tup (xs.map D.str), .int m] ∧ xs.length ≤ 1000 ∧ (xs.length : Int) ≤ m ∧ (∀ x ∈ xs, GoodN x) ∧ RisS xs ∧ k (.bl true)
def t_is_name_row : TXS := (sSeq (sIf (tOr1 (tNot1 (tB1 (xIsi isTupD (rVar 0)))) (tB1 (xBin gtD (xCall lenD (aCons (rVar 0) aNil)) (xVar 1)))) (sRet (xC (.bl false))) sNext) (sSeq (sFor (iV 0) (gN 2) (sIf (tNot1 (tB1 (xFn 1 T_is_name_text (aCons (rVar 2) aNil)))) (sRet (xC (.bl false))) sNext)) (sRet (xFn 1 T_is_rising (aCons (rVar 0) aNil)))))
theorem pure_is_name_row : ∀ ds k, ds.length = 2 → T_is_name_row ds k → t_is_name_row { nx := fun _ => k .non, rt := k } (startP 3 ds) := by
  rintro ds k hl ⟨xs, m, rfl, h1, h2, h3, h4, hk⟩
  have h2' : ¬ m < (xs.length : Int) := by omega
  simp [t_is_name_row, startP, isDicD, isTupD, h2']
  refine loopP_enc _ (fun ys ρ => (∀ x ∈ ys, GoodN x) ∧ ∃ y, ρ = [some (.d (.tup (xs.map D.str))), some (.d (.int m)), y]) (fun ρ q => ?_) (fun d ds ρ C hC q => ?_) _ _ ⟨h3, _, rfl⟩
  · obtain ⟨_, y, rfl⟩ := q
    simp [T_is_rising]
    exact .inr ⟨h1, h4, hk⟩
  · obtain ⟨g, y, rfl⟩ := q
    simp [T_is_name_text]
    refine ⟨g d (List.mem_cons_self ..), hC _ ⟨fun z hz => g z (List.mem_cons_of_mem _ hz), _, rfl⟩⟩
end K96
end

section
set_option Elab.async false
set_option linter.all false
set_option maxRecDepth 100000
set_option maxHeartbeats 2000000
namespace K96
open PySem PySem.Spec PyProof.Rows L2 PL
def ctot (a : List Int) : Int := maxOf (-1) a + 1
def T_class_total : FT := fun ds k => ∃ ns : List Int, ds = [arrD ns] ∧ k (.int (ctot ns))
def t_class_total : TXS := (sRet (xBin addD (xMaxDef (aCons (rVar 0) aNil) (xNeg (xC (.int 1)))) (xC (.int 1))))
theorem pure_class_total : ∀ ds k, ds.length = 1 → T_class_total ds k → t_class_total { nx := fun _ => k .non, rt := k } (startP 1 ds) := by
  rintro ds k hl ⟨ns, rfl, hk⟩
  simp [t_class_total, startP]
  exact hk
def iota (z : Int) : List Int := (List.range z.toNat).map fun (i : Nat) => (i : Int)
theorem rng_iota (z : Int) : rngD 0 z = (iota z).map D.int := by simp [rngD, iota, Function.comp_def]
def arrs : Nat → List (List Int)
  | 0 => [[]]
  | n + 1 => (arrs n).flatMap fun r => (iota (ctot r + 1)).map fun m => r ++ [m]
def T_all_arrangements : FT := fun ds k => ∃ n : Nat, ds = [.int n] ∧ n ≤ 4 ∧ k (.tup ((arrs n).map arrD))
def t_all_arrangements : TXS := (sSeq (sSetF 1 (fLst (aCons (rOf (xTup aNil)) aNil))) (sSeq (sFor (iR1 (xVar 0)) (gN 2) (sSetF 1 (fLc2 (jV 1) (.name 3) tYesP (jR1 (xBin addD (xFn 1 T_class_total (aCons (rVar 3) aNil)) (xC (.int 1)))) (.name 4) tYesP (xBin addD (xVar 3) (xTup (aCons (rVar 4) aNil))) [3, 4] [4]))) (sRet (xCall tupleD (aCons (rVar 1) aNil)))))
/-- two for's over encoded items -/
theorem comp2P_map {α β : Type} {c c1 : CT} {j1 : TXJ} {te : TX} {vs1 : List Nat} {ρ : PEnv} {k : List D → Prop} (enc : α → D) (encB : β → D) (fs : α → List β) (e : α → β → D) (ρ' : α → PEnv) :
    ∀ (l : List α) (acc : List D), (l.flatMap fun x => (fs x).map (e x)).length + acc.length ≤ 100000 → (∀ x ∈ l, ∀ C : PEnv → List D → Prop, C (ρ' x) ((fs x).map encB) → c.bind (enc x) ρ fun ρ2 => j1 ρ2 fun ys => C (wipeP ρ2 vs1) ys) →
      (∀ x ∈ l, ∀ y ∈ fs x, ∀ C : D → Prop, C (e x y) → c1.bind (encB y) (ρ' x) fun ρ3 => te ρ3 C) → k (acc ++ l.flatMap fun x => (fs x).map (e x)) → comp2P c tYesP j1 c1 tYesP te vs1 ρ k (l.map enc) acc
  | [], acc, _, _, _, hk => by simpa [comp2P] using hk
  | x :: l, acc, hl, h, h1, hk => by
    rw [List.flatMap_cons, List.length_append, List.length_map] at hl
    have q := h x (List.mem_cons_self ..) (fun ρ3 ys => compP c1 tYesP te ρ3 (fun acc' => comp2P c tYesP j1 c1 tYesP te vs1 ρ k (l.map enc) acc') ys acc) (by
      refine compP_fm encB (fun y => some (e x y)) (fs x) acc (by omega) (fun y hy C hC => ?_) ?_
      · simpa using h1 x (List.mem_cons_self ..) y hy (fun z => C (some z)) hC
      · rw [show (fs x).filterMap (fun y => some (e x y)) = (fs x).map (e x) by rw [List.filterMap_eq_map']]
        refine comp2P_map enc encB fs e ρ' l _ (by rw [List.length_append, List.length_map]; omega) (fun z hz => h z (List.mem_cons_of_mem _ hz)) (fun z hz => h1 z (List.mem_cons_of_mem _ hz)) ?_
        rw [List.flatMap_cons] at hk
        simpa using hk)
    simpa [comp2P] using q
theorem arrs_len : ∀ n, n ≤ 4 → (arrs n).length ≤ 15 := by decide +kernel
theorem arrs_ctot : ∀ n, n ≤ 4 → ∀ a ∈ arrs n, 0 ≤ ctot a ∧ ctot a ≤ 4 := by decide +kernel
theorem pure_all_arrangements : ∀ ds k, ds.length = 1 → T_all_arrangements ds k → t_all_arrangements { nx := fun _ => k .non, rt := k } (startP 5 ds) := by
  rintro ds k hl ⟨n, rfl, hn, hk⟩
  have s2 : Sm2 0 (n : Int) := ⟨by omega, by omega, by omega, by omega⟩
  have sm1 : Sm 1 := by unfold Sm; omega
  have sm0 : Sm 0 := by unfold Sm; omega
  simp [t_all_arrangements, startP, s2, sm1, sm0]
  rw [rng_iota]
  refine loopP_enc _ (fun js ρ => ∃ m, m + js.length = n ∧ ∃ y, ρ = [some (.d (.int n)), some (.own ((arrs m).map arrD)), y, none, none]) (fun ρ q => ?_) (fun d ds ρ C hC q => ?_) _ _ ⟨0, by simp [iota], _, rfl⟩
  · obtain ⟨m, e, y, rfl⟩ := q
    have : m = n := by simpa using e
    subst this
    simpa using hk
  · obtain ⟨m, e, y, rfl⟩ := q
    rw [List.length_cons] at e
    have q := hC [some (.d (.int n)), some (.own ((arrs (m + 1)).map arrD)), some (.d (.int d)), none, none] ⟨m + 1, by omega, _, rfl⟩
    simp
    refine comp2P_map arrD D.int (fun a => iota (ctot a + 1)) (fun a i => arrD (a ++ [i])) (fun a => [some (.d (.int n)), some (.own ((arrs m).map arrD)), some (.d (.int d)), some (.d (arrD a)), none]) _ _ ?_ (fun a ha C hC' => ?_) (fun a ha i hi C hC' => ?_) ?_
    · have e1 : ((arrs m).flatMap fun a => (iota (ctot a + 1)).map fun i => arrD (a ++ [i])) = (arrs (m + 1)).map arrD := by simp [arrs, List.map_flatMap, Function.comp_def]
      have := arrs_len (m + 1) (by omega)
      rw [e1]
      simp
      omega
    · obtain ⟨b1, b2⟩ := arrs_ctot m (by omega) a ha
      have s3 : Sm2 0 (ctot a + 1) := ⟨by omega, by omega, by omega, by omega⟩
      simp [T_class_total]
      refine ⟨s3, ?_⟩
      rw [rng_iota]
      exact hC'
    · have sm : Sm (a.length + 1) := by
        have : ∀ m ≤ 4, ∀ a ∈ arrs m, a.length ≤ 4 := by decide +kernel
        have := this m (by omega) a ha
        unfold Sm; omega
      simp [sm, sm1]
      have h5 : C (.tup ((a ++ [i]).map D.int)) := hC'
      simpa using h5
    · have e1 : ((arrs m).flatMap fun a => (iota (ctot a + 1)).map fun i => arrD (a ++ [i])) = (arrs (m + 1)).map arrD := by simp [arrs, List.map_flatMap, Function.comp_def]
      rw [e1]
      simpa using q
end K96
end

section
set_option Elab.async false
set_option linter.all false
set_option maxRecDepth 100000
set_option maxHeartbeats 2000000
namespace K96
open PySem PySem.Spec PyProof.Rows L2 PL
abbrev pairD (p : Int × Int) : D := .tup [.int p.1, .int p.2]
theorem pair_inj {p q : Int × Int} : (pairD p = pairD q) = (p = q) := propext ⟨fun h => by
  obtain ⟨a, b⟩ := p
  obtain ⟨c, d⟩ := q
  simp at h
  rw [h.1, h.2], fun h => by rw [h]⟩
theorem mem_inj {α : Type} [DecidableEq α] {enc : α → D} (hi : ∀ p q, (enc p = enc q) = (p = q)) {x : α} {l : List α} : (enc x ∈ l.map enc) = (x ∈ l) := by
  simp only [List.mem_map, hi, eq_iff_iff]
  exact ⟨fun ⟨y, h, e⟩ => by rw [← e]; exact h, fun h => ⟨x, h, rfl⟩⟩
theorem idx_inj {α : Type} [BEq α] [LawfulBEq α] {enc : α → D} (hi : ∀ p q, (enc p = enc q) = (p = q)) {x : α} : ∀ {l : List α}, (l.map enc).idxOf (enc x) = l.idxOf x
  | [] => rfl
  | y :: l => by
    rw [List.map_cons, List.idxOf_cons, List.idxOf_cons, idx_inj hi]
    have e : (enc y == enc x) = (y == x) := by rw [Bool.eq_iff_iff, beq_iff_eq, beq_iff_eq, hi]
    rw [e]
def numGo : List (Int × Int) → List (Int × Int) → List Int
  | _, [] => []
  | seen, x :: xs => (((if x ∈ seen then seen else seen ++ [x]).idxOf x : Nat) : Int) :: numGo (if x ∈ seen then seen else seen ++ [x]) xs
def numb (l : List (Int × Int)) : List Int := numGo [] l
def T_numbered : FT := fun ds k => ∃ l : List (Int × Int), ds = [.lst (l.map pairD)] ∧ l.length ≤ 1000 ∧ k (arrD (numb l))
def t_numbered : TXS := (sSeq (sSetF 1 (fLst aNil)) (sSeq (sSetF 2 (fLst aNil)) (sSeq (sFor (iV 0) (gN 3) (sSeq (sIf (tB1 (xIn (xVar 3) (rVar 1) (inD true))) (sApp 1 (xVar 3)) sNext) (sApp 2 (xIdx (rVar 1) (xVar 3))))) (sRet (xCall tupleD (aCons (rVar 2) aNil))))))
theorem cl_pairs {n : Nat} {l : List (Int × Int)} : (l.map pairD).all (D.cl (n + 1)) = true := by simp [List.all_eq_true]
theorem pure_numbered : ∀ ds k, ds.length = 1 → T_numbered ds k → t_numbered { nx := fun _ => k .non, rt := k } (startP 4 ds) := by
  rintro ds k hl ⟨l, rfl, hb, hk⟩
  have sm0 : Sm 0 := by unfold Sm; omega
  simp [t_numbered, startP, sm0]
  refine loopP_enc pairD (fun xs ρ => ∃ seen row y, ρ = [some (.d (.lst (l.map pairD))), some (.own (seen.map pairD)), some (.own (row.map D.int)), y] ∧ row ++ numGo seen xs = numb l ∧ seen.length + xs.length ≤ 1000 ∧ row.length + xs.length ≤ 1000) (fun ρ q => ?_) (fun x xs ρ C hC q => ?_) _ _ ⟨[], [], _, rfl, rfl, by simpa using hb, by simpa using hb⟩
  · obtain ⟨seen, row, y, rfl, e, _, _⟩ := q
    rw [numGo, List.append_nil] at e
    subst e
    simpa using hk
  · obtain ⟨seen, row, y, rfl, e, b1, b2⟩ := q
    rw [numGo] at e
    rw [List.length_cons] at b1 b2
    have sm1 : Sm (seen.length + 1) := by unfold Sm; omega
    have sm2 : Sm (row.length + 1) := by unfold Sm; omega
    have mem : decide (D.tup [D.int x.1, D.int x.2] ∈ seen.map pairD) = decide (x ∈ seen) := by rw [decide_eq_decide]; exact iff_of_eq (mem_inj (fun p q => pair_inj))
    have cl19 : ∀ l : List (Int × Int), (l.map pairD).all (D.cl 19) = true := fun l => cl_pairs
    by_cases hx : x ∈ seen
    · rw [if_pos hx] at e
      have h1 := hC [some (.d (.lst (l.map pairD))), some (.own (seen.map pairD)), some (.own ((row ++ [((seen.idxOf x : Nat) : Int)]).map D.int)), some (.d (pairD x))] ⟨seen, _, _, rfl, by rw [← e]; simp, by omega, by simp; omega⟩
      have e2 : (seen.map pairD).idxOf (D.tup [D.int x.1, D.int x.2]) = seen.idxOf x := idx_inj (enc := pairD) (fun p q => pair_inj)
      have m2 : D.tup [D.int x.1, D.int x.2] ∈ seen.map pairD := by rw [show (D.tup [D.int x.1, D.int x.2]) = pairD x from rfl, mem_inj (fun p q => pair_inj)]; exact hx
      simp only [s_gN, s_sSeq, s_sIf, s_tB1, s_xIn, s_xVar, s_rVar, List.set_cons_succ, List.set_cons_zero, List.getElem?_cons_zero, List.getElem?_cons_succ, s_xD, s_xP, PV.dat_own, s_inL, s_clT, s_clL, cl19, mem, hx, decide_true, s_isB]
      have cl2 : ∀ (y : D) (a b : Int), (a, b) ∈ seen → pairD (a, b) = y → D.cl 19 y = true := fun y a b _ e => by rw [← e]; simp
      simp [s_sApp, sm2, cl_pairs, cl19, m2, e2]
      exact ⟨cl2, by simpa using h1⟩
    · rw [if_neg hx] at e
      have h1 := hC [some (.d (.lst (l.map pairD))), some (.own ((seen ++ [x]).map pairD)), some (.own ((row ++ [(((seen ++ [x]).idxOf x : Nat) : Int)]).map D.int)), some (.d (pairD x))] ⟨seen ++ [x], _, _, rfl, by rw [← e]; simp, by simp; omega, by simp; omega⟩
      have e2 : (seen.map pairD ++ [D.tup [D.int x.1, D.int x.2]]).idxOf (D.tup [D.int x.1, D.int x.2]) = (seen ++ [x]).idxOf x := by
        rw [show seen.map pairD ++ [D.tup [D.int x.1, D.int x.2]] = (seen ++ [x]).map pairD by simp]
        exact idx_inj (enc := pairD) (fun p q => pair_inj)
      simp only [s_gN, s_sSeq, s_sIf, s_tB1, s_xIn, s_xVar, s_rVar, List.set_cons_succ, List.set_cons_zero, List.getElem?_cons_zero, List.getElem?_cons_succ, s_xD, s_xP, PV.dat_own, s_inL, s_clT, s_clL, cl19, mem, hx, decide_false, s_isB]
      have cl2 : ∀ y : D, (∃ a b, (a, b) ∈ seen ∧ pairD (a, b) = y) ∨ y = pairD x → D.cl 19 y = true := fun y hy => by
        rcases hy with ⟨a, b, _, rfl⟩ | rfl <;> simp
      simp [s_sApp, sm1, sm2, cl_pairs, cl19, e2]
      exact ⟨cl2, by simpa using h1⟩
theorem atI_iota {α : Type} {a : List α} {n : Nat} {i : Int} (h : i ∈ iota n) (hn : n ≤ a.length) : ∃ j : Nat, i = j ∧ ∃ h : j < a.length, atI a i = some a[j] := by
  unfold iota at h
  obtain ⟨j, hj, rfl⟩ := List.mem_map.mp h
  have hj := List.mem_range.mp hj
  have : j < a.length := by omega
  exact ⟨j, rfl, this, by rw [atI_cast, List.getElem?_eq_getElem this]⟩
theorem zip_iota (a b : List Int) (h : a.length = b.length) : (iota a.length).map (fun i => ((a.getD i.toNat 0, b.getD i.toNat 0) : Int × Int)) = a.zip b := by
  apply List.ext_getElem
  · simp [iota, h]
  · intro i h1 h2
    simp [iota] at h1 h2 ⊢
    have h3 : i < b.length := by omega
    simp [h1, h3]
def T_finest_below : FT := fun ds k => ∃ a b : List Int, ds = [arrD a, arrD b] ∧ a.length = b.length ∧ a.length ≤ 1000 ∧ k (arrD (numb (a.zip b)))
def t_finest_below : TXS := (sRet (xFn 1 T_numbered (aCons (rOf (xOfF (fLc (jR1 (xCall lenD (aCons (rVar 0) aNil))) (.name 2) tYesP (xTup (aCons (rOf (xIx (rVar 0) (xVar 2))) (aCons (rOf (xIx (rVar 1) (xVar 2))) aNil))) [2]))) aNil)))
theorem pure_finest_below : ∀ ds k, ds.length = 2 → T_finest_below ds k → t_finest_below { nx := fun _ => k .non, rt := k } (startP 3 ds) := by
  rintro ds k hl ⟨a, b, rfl, h1, h2, hk⟩
  have s2 : Sm2 0 (a.length : Int) := ⟨by omega, by omega, by omega, by omega⟩
  have sm2 : Sm 2 := by unfold Sm; omega
  simp [t_finest_below, startP, s2]
  rw [rng_iota]
  refine compP_map D.int (fun i => pairD (a.getD i.toNat 0, b.getD i.toNat 0)) _ (by simp [iota]; omega) (fun i hi C hC => ?_) ?_
  · obtain ⟨j, rfl, hj, ej⟩ := atI_iota (a := a) hi (by omega)
    have hb : j < b.length := by omega
    simp [sm2, hj, hb] at hC ⊢
    exact hC
  · have e : (iota a.length).map (fun i => pairD (a.getD i.toNat 0, b.getD i.toNat 0)) = (a.zip b).map pairD := by
      rw [← zip_iota a b h1, List.map_map]; rfl
    rw [e]
    simp [T_numbered]
    exact ⟨_, rfl, by simp; omega, hk⟩
def refP (a b : List Int) (i j : Nat) : Bool := !(decide (a.getD i 0 = a.getD j 0) && !decide (b.getD i 0 = b.getD j 0))
def refB (a b : List Int) : Bool := (List.range a.length).all fun i => (List.range i).all fun j => refP a b i j
def T_refines : FT := fun ds k => ∃ a b : List Int, ds = [arrD a, arrD b] ∧ a.length = b.length ∧ a.length ≤ 1000 ∧ k (.bl (refB a b))
def t_refines : TXS := (sSeq (sFor (iR1 (xCall lenD (aCons (rVar 0) aNil))) (gN 2) (sFor (iR1 (xVar 2)) (gN 3) (sIf (tAnd1 (tB1 (xBin eqD (xIx (rVar 0) (xVar 2)) (xIx (rVar 0) (xVar 3)))) (tB1 (xBin neD (xIx (rVar 1) (xVar 2)) (xIx (rVar 1) (xVar 3))))) (sRet (xC (.bl false))) sNext))) (sRet (xC (.bl true))))
theorem pure_refines : ∀ ds k, ds.length = 2 → T_refines ds k → t_refines { nx := fun _ => k .non, rt := k } (startP 4 ds) := by
  rintro ds k hl ⟨a, b, rfl, h1, h2, hk⟩
  have s2 : Sm2 0 (a.length : Int) := ⟨by omega, by omega, by omega, by omega⟩
  simp [t_refines, startP, s2]
  unfold rngD
  simp
  refine loopP_enc (fun i : Nat => D.int i) (fun xs ρ => (∀ i ∈ xs, i < a.length) ∧ k (.bl (xs.all fun i => (List.range i).all fun j => refP a b i j)) ∧ ∃ y z, ρ = [some (.d (arrD a)), some (.d (arrD b)), y, z]) (fun ρ q => ?_) (fun i is ρ C hC q => ?_) _ _ ⟨fun i hi => List.mem_range.mp hi, hk, _, _, rfl⟩
  · exact q.2.1
  · obtain ⟨hi, hk, y, z, rfl⟩ := q
    have il := hi i (List.mem_cons_self ..)
    have s3 : Sm2 0 (i : Int) := ⟨by omega, by omega, by omega, by omega⟩
    simp [s3]
    unfold rngD
    simp
    refine loopP_enc (fun j : Nat => D.int j) (fun xs ρ => (∀ j ∈ xs, j < i) ∧ k (.bl ((xs.all fun j => refP a b i j) && (is.all fun i => (List.range i).all fun j => refP a b i j))) ∧ ∃ z, ρ = [some (.d (arrD a)), some (.d (arrD b)), some (.d (.int i)), z]) (fun ρ q => ?_) (fun j js ρ C2 hC2 q => ?_) _ _ ⟨fun i hi => List.mem_range.mp hi, by simpa using hk, _, rfl⟩
    · obtain ⟨_, hk2, z, rfl⟩ := q
      exact hC _ ⟨fun x hx => hi x (List.mem_cons_of_mem _ hx), by simpa using hk2, _, _, rfl⟩
    · obtain ⟨hj, hk2, z, rfl⟩ := q
      have jl := hj j (List.mem_cons_self ..)
      have g1 : i < b.length := by omega
      have g2 : j < b.length := by omega
      have g3 : j < a.length := by omega
      have q1 := fun w => hC2 [some (.d (arrD a)), some (.d (arrD b)), some (.d (.int i)), some (.d (.int j))] ⟨fun x hx => hj x (List.mem_cons_of_mem _ hx), w, _, rfl⟩
      simp only [List.all_cons] at hk2
      have er : refP a b i j = !(decide (a[i] = a[j]) && !decide (b[i] = b[j])) := by simp [refP, il, g1, g2, g3]
      rw [er] at hk2
      simp [il, g1, g2, g3]
      by_cases c1 : a[i] = a[j] <;> by_cases c2 : b[i] = b[j] <;> simp [c1, c2] at hk2 ⊢ <;> first | exact hk2 | exact q1 (by simpa using hk2)
end K96
end

section
set_option Elab.async false
set_option linter.all false
set_option maxRecDepth 100000
set_option maxHeartbeats 2000000
namespace K96
open PySem PySem.Spec PyProof.Rows L2 PL
/-- the greatest ones that stand next to the ray go into it; the list is turned -/
def trimR : List Int → Int → Row
  | [], t => ([], t)
  | y :: ys, t => if y = t - 1 then trimR ys (t - 1) else ((y :: ys).reverse, t)
def tidy (ns : List Int) (ray : Int) : Row := if ray ≠ 0 then trimR ((srt ns).filter fun x => decide (x < ray)).reverse ray else (srt ns, 0)
def T_tidied : FT := fun ds k => ∃ (ns : List Int) (ray : Int), ds = [.lst (ns.map D.int), .int ray] ∧ ns.length < 64 ∧ k (rowD (tidy ns ray))
def t_tidied : TXS := (sSeq (sSetF 2 (fSortedSet (rVar 0))) (sSeq (sMove 3 1) (sSeq (sIf (tTr (rVar 3)) (sSeq (sSetF 2 (fLc (jV 2) (.name 4) (tB1 (xBin ltD (xVar 4) (xVar 3))) (xVar 4) [4])) (sWhile (tAnd1 (tTr (rVar 2)) (tB1 (xBin eqD (xIx (rVar 2) (xNeg (xC (.int 1)))) (xBin subD (xVar 3) (xC (.int 1)))))) (sSeq (sPopD 2) (sAug 3 (· - ·) (xC (.int 1)))))) sNext) (sRet (xTup (aCons (rOf (xCall tupleD (aCons (rVar 2) aNil))) (aCons (rVar 3) aNil)))))))
theorem srt_len : ∀ ns : List Int, (srt ns).length ≤ ns.length := fun ns => by
  have h : ∀ (x : Int) (ys : List Int), (ins1 x ys).length ≤ ys.length + 1 := by
    intro x ys
    induction ys with
    | nil => simp [ins1]
    | cons y ys ih =>
      unfold ins1
      split
      · simp
      · split
        · simp
        · simp; omega
  induction ns with
  | nil => simp [srt]
  | cons n ns ih =>
    have := h n (srt ns)
    simp [srt]; omega
theorem fm_filter (p : Int → Bool) : ∀ l : List Int, (l.filterMap fun x => if p x = true then some (D.int x) else none) = (l.filter p).map D.int
  | [] => rfl
  | x :: l => by
    by_cases c : p x = true <;> simp [c, fm_filter p l]
theorem pure_tidied : ∀ ds k, ds.length = 2 → T_tidied ds k → t_tidied { nx := fun _ => k .non, rt := k } (startP 5 ds) := by
  rintro ds k hl ⟨ns, ray, rfl, hn, hk⟩
  have sm2 : Sm 2 := by unfold Sm; omega
  have ls := srt_len ns
  simp [t_tidied, startP, hn]
  by_cases hr : ray = 0
  · subst hr
    simp [sm2]
    simpa [tidy] using hk
  · simp [hr]
    refine compP_fm D.int (fun x => if x < ray then some (D.int x) else none) _ _ (by simp; omega) (fun x hx C hC => ?_) ?_
    · by_cases c : x < ray <;> simp [c] at hC ⊢ <;> exact hC
    · have e : ((srt ns).filterMap fun x => if x < ray then some (D.int x) else none) = ((srt ns).filter fun x => decide (x < ray)).map D.int := by
        have := fm_filter (fun x => decide (x < ray)) (srt ns)
        simpa using this
      rw [e]
      have hk : k (rowD (trimR ((srt ns).filter fun x => decide (x < ray)).reverse ray)) := by simpa [tidy, hr] using hk
      generalize hz : ((srt ns).filter fun x => decide (x < ray)).reverse = zs at hk
      have ez : ((srt ns).filter fun x => decide (x < ray)) = zs.reverse := by rw [← hz, List.reverse_reverse]
      rw [ez]
      have lp : ∀ (zs : List Int) (top : Int) (y : Option PV), k (rowD (trimR zs top)) → whileP (tAnd1 (tTr (rVar 2)) (tB1 (xBin eqD (xIx (rVar 2) (xNeg (xC (.int 1)))) (xBin subD (xVar 3) (xC (.int 1)))))) (sSeq (sPopD 2) (sAug 3 (· - ·) (xC (.int 1))))
          { nx := (sRet (xTup (aCons (rOf (xCall tupleD (aCons (rVar 2) aNil))) (aCons (rVar 3) aNil)))) { nx := fun _ => k .non, rt := k }, rt := k } (zs.length + 1) [some (.d (.lst (ns.map D.int))), some (.d (.int ray)), some (.own (zs.reverse.map D.int)), some (.d (.int top)), y] := by
        intro zs
        induction zs with
        | nil =>
          intro top y hk
          have hk' : k (.tup [.tup (([] : List Int).map D.int), .int top]) := hk
          simp [whileP, sm2]
          simpa using hk'
        | cons z zs ih =>
          intro top y hk
          rw [List.length_cons, whileP]
          simp
          by_cases c : z = top - 1
          · rw [trimR, if_pos c] at hk
            have h := ih (top - 1) y hk
            simp [c]
            simpa using h
          · rw [trimR, if_neg c] at hk
            have hk' : k (.tup [.tup ((z :: zs).reverse.map D.int), .int top]) := hk
            simp [c, sm2]
            simpa using hk'
      exact ⟨_, lp zs ray none hk⟩
/-- the sizes that a row lets -/
def has (r : Row) (s : Int) : Bool := decide (s ∈ r.1 ∨ 0 < r.2 ∧ r.2 ≤ s)
def T_has : FT := fun ds k => ∃ (r : Row) (s : Int), ds = [rowD r, .int s] ∧ k (.bl (has r s))
def t_has : TXS := (sSeq (sAsg (xVar 0) (gT [2, 3])) (sRet (xOr (xIn (xVar 1) (rVar 2) (inD false)) (xChain ltD leD (xC (.int 0)) (xVar 3) (xVar 1)))))
theorem pure_has : ∀ ds k, ds.length = 2 → T_has ds k → t_has { nx := fun _ => k .non, rt := k } (startP 4 ds) := by
  rintro ds k hl ⟨r, s, rfl, hk⟩
  unfold has at hk
  simp [t_has, startP]
  by_cases c1 : s ∈ r.1 <;> by_cases c2 : 0 < r.2 <;> simp [c1, c2] at hk ⊢ <;> exact hk
def meetR (a b : Row) : Row := tidy (a.1.filter (has b) ++ b.1.filter (has a)) (if a.2 ≠ 0 ∧ b.2 ≠ 0 then max a.2 b.2 else 0)
def T_common_sizes : FT := fun ds k => ∃ a b : Row, ds = [rowD a, rowD b] ∧ a.1.length + b.1.length < 64 ∧ k (rowD (meetR a b))
def t_common_sizes : TXS := (sSeq (sSet 2 (xBin addD (xOfF (fLc (jX (xIx (rVar 0) (xC (.int 0)))) (.name 4) (tB1 (xFn 2 T_has (aCons (rVar 1) (aCons (rVar 4) aNil)))) (xVar 4) [4])) (xOfF (fLc (jX (xIx (rVar 1) (xC (.int 0)))) (.name 4) (tB1 (xFn 2 T_has (aCons (rVar 0) (aCons (rVar 4) aNil)))) (xVar 4) [4])))) (sSeq (sSet 3 (xC (.int 0))) (sSeq (sIf (tAnd1 (tTr (rOf (xIx (rVar 0) (xC (.int 1))))) (tTr (rOf (xIx (rVar 1) (xC (.int 1)))))) (sSet 3 (xCall maxD2 (aCons (rOf (xIx (rVar 0) (xC (.int 1)))) (aCons (rOf (xIx (rVar 1) (xC (.int 1)))) aNil)))) sNext) (sRet (xFn 2 T_tidied (aCons (rVar 2) (aCons (rVar 3) aNil)))))))
/-- a filter of ints -/
theorem compP_filt {c : CT} {tt : TXT} {te : TX} {ρ : PEnv} {k : List D → Prop} (p : Int → Bool) (l : List Int) (hl : l.length ≤ 100000)
    (h : ∀ x ∈ l, ∀ C : Option D → Prop, C (if p x = true then some (D.int x) else none) → c.bind (D.int x) ρ fun ρ2 => tt ρ2 fun b => if b = true then te ρ2 fun y => C (some y) else C none) (hk : k ((l.filter p).map D.int)) : compP c tt te ρ k (l.map D.int) [] := by
  refine compP_fm D.int (fun x => if p x = true then some (D.int x) else none) l [] (by simpa using hl) h ?_
  rw [fm_filter]
  simpa using hk
theorem row_eta {a b : Row} (h1 : a.1.map D.int = b.1.map D.int) (h2 : a.2 = b.2) : a = b := Prod.ext (ints_inj h1) h2
theorem pure_common_sizes : ∀ ds k, ds.length = 2 → T_common_sizes ds k → t_common_sizes { nx := fun _ => k .non, rt := k } (startP 5 ds) := by
  rintro ds k hl ⟨a, b, rfl, hn, hk⟩
  simp [t_common_sizes, startP]
  have l1 := List.length_filter_le (has b) a.1
  have l2 := List.length_filter_le (has a) b.1
  refine compP_filt (has b) _ (by omega) (fun x hx C hC => ?_) ?_
  · simp only [s_ctN, s_gN, List.set_cons_succ, List.set_cons_zero, s_tB1, s_xFn, s_aCons, s_aNil, s_rVar, s_xVar, List.getElem?_cons_zero, List.getElem?_cons_succ, s_xP, s_xD]
    refine ⟨rfl, b, x, rfl, fun h => by simp at h, ?_⟩
    simp only [s_isB]
    by_cases c : has b x = true <;> simp only [c, if_true, if_false, Bool.false_eq_true] at hC ⊢ <;> exact hC
  · refine compP_filt (has a) _ (by omega) (fun x hx C hC => ?_) ?_
    · simp only [s_ctN, s_gN, List.set_cons_succ, List.set_cons_zero, s_tB1, s_xFn, s_aCons, s_aNil, s_rVar, s_xVar, List.getElem?_cons_zero, List.getElem?_cons_succ, s_xP, s_xD]
      refine ⟨rfl, a, x, rfl, fun h => by simp at h, ?_⟩
      simp only [s_isB]
      by_cases c : has a x = true <;> simp only [c, if_true, if_false, Bool.false_eq_true] at hC ⊢ <;> exact hC
    · have sm : Sm ((a.1.filter (has b)).length + (b.1.filter (has a)).length) := by unfold Sm; omega
      have fin : ∀ ray : Int, k (rowD (tidy (a.1.filter (has b) ++ b.1.filter (has a)) ray)) → T_tidied [.lst ((a.1.filter (has b)).map D.int ++ (b.1.filter (has a)).map D.int), .int ray] k := fun ray h => ⟨_, ray, by rw [List.map_append], by rw [List.length_append]; omega, h⟩
      unfold meetR at hk
      simp [sm]
      by_cases c1 : a.2 = 0 <;> by_cases c2 : b.2 = 0 <;> simp [c1, c2] at hk ⊢ <;> exact fin _ hk
end K96
end

section
set_option Elab.async false
set_option linter.all false
set_option maxRecDepth 100000
set_option maxHeartbeats 2000000
namespace K96
open PySem PySem.Spec PyProof.Rows L2 PL
def leastOf (r : Row) : Int := match r.1 with
  | s :: _ => s
  | [] => r.2
def T_least_of : FT := fun ds k => ∃ r : Row, ds = [rowD r] ∧ k (.int (leastOf r))
def t_least_of : TXS := (sSeq (sAsg (xVar 0) (gT [1, 2])) (sSeq (sIf (tTr (rVar 1)) (sRet (xIx (rVar 1) (xC (.int 0)))) sNext) (sRetV 2)))
theorem pure_least_of : ∀ ds k, ds.length = 1 → T_least_of ds k → t_least_of { nx := fun _ => k .non, rt := k } (startP 3 ds) := by
  rintro ds k hl ⟨⟨few, ray⟩, rfl, hk⟩
  cases few with
  | nil => simp [t_least_of, startP]; exact hk
  | cons s few => simp [t_least_of, startP]; exact hk
def rngI (a b : Int) : List Int := (List.range (b - a).toNat).map fun (i : Nat) => a + i
theorem rng_rngI (a b : Int) : rngD a b = (rngI a b).map D.int := by simp [rngD, rngI, Function.comp_def]
theorem rngI_len (a b : Int) : (rngI a b).length = (b - a).toNat := by simp [rngI]
theorem rngI_mem {a b x : Int} : x ∈ rngI a b ↔ a ≤ x ∧ x < b := by
  simp only [rngI, List.mem_map, List.mem_range]
  constructor
  · rintro ⟨i, h, rfl⟩; omega
  · intro h; exact ⟨(x - a).toNat, by omega, by omega⟩
def fromTo (lo hi : Int) : Row := if hi = 0 then ([], lo) else tidy (rngI lo (hi + 1)) 0
def T_from_to : FT := fun ds k => ∃ lo hi : Int, ds = [.int lo, .int hi] ∧ -1000 ≤ lo ∧ lo ≤ 1000 ∧ hi ≤ 1000 ∧ -1000 ≤ hi ∧ hi - lo < 60 ∧ k (rowD (fromTo lo hi))
def t_from_to : TXS := (sSeq (sIf (tB1 (xBin eqD (xVar 1) (xC (.int 0)))) (sRet (xTup (aCons (rOf (xTup aNil)) (aCons (rVar 0) aNil)))) sNext) (sRet (xFn 2 T_tidied (aCons (rOf (xOfF (fRng2 (xVar 0) (xBin addD (xVar 1) (xC (.int 1)))))) (aCons (rOf (xC (.int 0))) aNil)))))
theorem pure_from_to : ∀ ds k, ds.length = 2 → T_from_to ds k → t_from_to { nx := fun _ => k .non, rt := k } (startP 2 ds) := by
  rintro ds k hl ⟨lo, hi, rfl, h1, h2, h3, h4, h5, hk⟩
  have sm2 : Sm 2 := by unfold Sm; omega
  have sm0 : Sm 0 := by unfold Sm; omega
  have s2 : Sm2 lo (hi + 1) := ⟨by omega, by omega, by omega, by omega⟩
  unfold fromTo at hk
  by_cases c : hi = 0
  · subst c; simp [t_from_to, startP, sm2, sm0]; rw [if_pos rfl] at hk; exact hk
  · rw [if_neg c] at hk
    simp [t_from_to, startP, c, s2]
    exact ⟨rngI lo (hi + 1), 0, by rw [rng_rngI], by rw [rngI_len]; omega, hk⟩
/-- a right row -/
structure RowV (r : Row) : Prop where
  up : r.1.Pairwise (· < ·)
  mem : ∀ s ∈ r.1, 1 ≤ s ∧ s ≤ 20
  ray : 0 ≤ r.2 ∧ r.2 ≤ 20
  gap : r.2 = 0 ∨ ∀ s ∈ r.1, s < r.2 - 1
  few : r.1.length ≤ 20
def T_is_sizes : FT := fun ds k => ∃ r : Row, ds = [rowD r] ∧ RowV r ∧ k (.bl true)
def t_is_sizes : TXS := (sSeq (sIf (tOr1 (tNot1 (tB1 (xFn 1 T_is_pair (aCons (rVar 0) aNil)))) (tNot1 (tB1 (xIsi isTupD (rOf (xIx (rVar 0) (xC (.int 0)))))))) (sRet (xC (.bl false))) sNext) (sSeq (sAsg (xVar 0) (gT [1, 2])) (sSeq (sIf (tNot1 (tB1 (xFn 3 T_is_number (aCons (rVar 2) (aCons (rOf (xC (.int 0))) (aCons (rOf (xC (.int 100))) aNil)))))) (sRet (xC (.bl false))) sNext) (sSeq (sFor (iV 1) (gN 3) (sIf (tNot1 (tB1 (xFn 3 T_is_number (aCons (rVar 3) (aCons (rOf (xC (.int 1))) (aCons (rOf (xC (.int 99))) aNil)))))) (sRet (xC (.bl false))) sNext)) (sSeq (sIf (tNot1 (tB1 (xFn 1 T_is_rising (aCons (rVar 1) aNil)))) (sRet (xC (.bl false))) sNext) (sRet (xOr (xBin eqD (xVar 2) (xC (.int 0))) (xOr (xNot (rVar 1)) (xBin ltD (xIx (rVar 1) (xNeg (xC (.int 1)))) (xBin subD (xVar 2) (xC (.int 1))))))))))))
theorem pure_is_sizes : ∀ ds k, ds.length = 1 → T_is_sizes ds k → t_is_sizes { nx := fun _ => k .non, rt := k } (startP 4 ds) := by
  rintro ds k hl ⟨⟨few, ray⟩, rfl, ⟨up, mem, ⟨r0, r1⟩, gap, fl⟩, hk⟩
  dsimp only at up mem r0 r1 gap fl
  simp [t_is_sizes, startP, T_is_pair, isDicD, isTupD]
  refine ⟨ray, 0, 100, rfl, ?_⟩
  have r2 : ray ≤ 100 := by omega
  simp [r0, r2]
  refine loopP_enc D.int (fun xs ρ => (∀ s ∈ xs, 1 ≤ s ∧ s ≤ 20) ∧ ∃ y, ρ = [some (.d (rowD (few, ray))), some (.d (.tup (few.map D.int))), some (.d (.int ray)), y]) (fun ρ q => ?_) (fun x xs ρ C hC q => ?_) _ _ ⟨mem, _, rfl⟩
  · obtain ⟨_, y, rfl⟩ := q
    simp
    refine .inl ⟨few, rfl, by omega, up, ?_⟩
    by_cases c : ray = 0
    · subst c; simpa using hk
    · rcases List.eq_nil_or_concat few with e | ⟨xs, y, e⟩
      · subst e; simp [c]; exact hk
      · subst e
        have q := (gap.resolve_left c) y (by simp)
        simp [c, q]
        exact hk
  · obtain ⟨h, y, rfl⟩ := q
    obtain ⟨a, b⟩ := h x (List.mem_cons_self ..)
    have h2 := hC [some (.d (rowD (few, ray))), some (.d (.tup (few.map D.int))), some (.d (.int ray)), some (.d (.int x))] ⟨fun z hz => h z (List.mem_cons_of_mem _ hz), _, rfl⟩
    simp
    refine ⟨x, 1, 99, rfl, ?_⟩
    have b2 : x ≤ 99 := by omega
    simp [a, b2]
    exact h2
def fullR (a : List Int) : Row := ([], max 1 (ctot a))
def T_full_row : FT := fun ds k => ∃ a : List Int, ds = [arrD a] ∧ k (rowD (fullR a))
def t_full_row : TXS := (sRet (xTup (aCons (rOf (xTup aNil)) (aCons (rOf (xCall maxD2 (aCons (rOf (xC (.int 1))) (aCons (rOf (xFn 1 T_class_total (aCons (rVar 0) aNil))) aNil)))) aNil))))
theorem pure_full_row : ∀ ds k, ds.length = 1 → T_full_row ds k → t_full_row { nx := fun _ => k .non, rt := k } (startP 1 ds) := by
  rintro ds k hl ⟨a, rfl, hk⟩
  have sm2 : Sm 2 := by unfold Sm; omega
  have sm0 : Sm 0 := by unfold Sm; omega
  simp [t_full_row, startP, sm2, sm0, T_class_total]
  exact hk
def faceWith (ns : List Str) (r : Row) : Face := (ns, (arrs ns.length).map fun a => meetR r (fullR a))
def T_face_with : FT := fun ds k => ∃ (ns : List Str) (r : Row), ds = [.tup (ns.map D.str), rowD r] ∧ ns.length ≤ 4 ∧ r.1.length < 64 ∧ k (faceD (faceWith ns r))
def t_face_with : TXS := (sRet (xTup (aCons (rVar 0) (aCons (rOf (xCall tupleD (aCons (rOf (xOfF (fLc (jX (xFn 1 T_all_arrangements (aCons (rOf (xCall lenD (aCons (rVar 0) aNil))) aNil))) (.name 2) tYesP (xFn 2 T_common_sizes (aCons (rVar 1) (aCons (rOf (xFn 1 T_full_row (aCons (rVar 2) aNil))) aNil))) [2]))) aNil))) aNil))))
theorem pure_face_with : ∀ ds k, ds.length = 2 → T_face_with ds k → t_face_with { nx := fun _ => k .non, rt := k } (startP 3 ds) := by
  rintro ds k hl ⟨ns, r, rfl, h1, h2, hk⟩
  have sm2 : Sm 2 := by unfold Sm; omega
  have la := arrs_len ns.length h1
  simp [t_face_with, startP, sm2]
  refine ⟨ns.length, by simp, h1, ?_⟩
  simp
  refine compP_map arrD (fun a => rowD (meetR r (fullR a))) _ (by omega) (fun a ha C hC => ?_) ?_
  · simp [T_full_row]
    exact ⟨r, fullR a, rfl, by simpa [fullR] using h2, by simpa using hC⟩
  · have hk' : k (.tup [.tup (ns.map D.str), .tup ((faceWith ns r).2.map rowD)]) := hk
    unfold faceWith at hk'
    simpa [Function.comp_def] using hk'
def wholeF (ns : List Str) : Face := faceWith ns ([], 1)
def T_whole_face : FT := fun ds k => ∃ ns : List Str, ds = [.tup (ns.map D.str)] ∧ ns.length ≤ 4 ∧ k (faceD (wholeF ns))
def t_whole_face : TXS := (sRet (xFn 2 T_face_with (aCons (rVar 0) (aCons (rOf (xTup (aCons (rOf (xTup aNil)) (aCons (rOf (xC (.int 1))) aNil)))) aNil))))
theorem pure_whole_face : ∀ ds k, ds.length = 1 → T_whole_face ds k → t_whole_face { nx := fun _ => k .non, rt := k } (startP 1 ds) := by
  rintro ds k hl ⟨ns, rfl, h1, hk⟩
  have sm2 : Sm 2 := by unfold Sm; omega
  have sm0 : Sm 0 := by unfold Sm; omega
  simp [t_whole_face, startP, sm2, sm0]
  exact ⟨ns, ([], 1), rfl, h1, by simp, hk⟩
def meetF (f g : Face) : Face := (f.1, List.zipWith meetR f.2 g.2)
def T_meet_faces : FT := fun ds k => ∃ f g : Face, ds = [faceD f, faceD g] ∧ f.2.length ≤ 1000 ∧ (∀ p ∈ f.2.zip g.2, p.1.1.length + p.2.1.length < 64) ∧ k (faceD (meetF f g))
def t_meet_faces : TXS := (sRet (xTup (aCons (rOf (xIx (rVar 0) (xC (.int 0)))) (aCons (rOf (xCall tupleD (aCons (rOf (xOfF (fLc (jZip (xIx (rVar 0) (xC (.int 1))) (xIx (rVar 1) (xC (.int 1)))) (.tup [2, 3]) tYesP (xFn 2 T_common_sizes (aCons (rVar 2) (aCons (rVar 3) aNil))) [2, 3]))) aNil))) aNil))))
theorem zipD_enc {α β : Type} (e1 : α → D) (e2 : β → D) : ∀ (a : List α) (b : List β), zipD (a.map e1) (b.map e2) = (a.zip b).map fun p => D.tup [e1 p.1, e2 p.2]
  | [], _ => by simp [zipD]
  | _ :: _, [] => by simp [zipD]
  | x :: a, y :: b => by
    have := zipD_enc e1 e2 a b
    unfold zipD at this ⊢
    simpa using this
theorem pure_meet_faces : ∀ ds k, ds.length = 2 → T_meet_faces ds k → t_meet_faces { nx := fun _ => k .non, rt := k } (startP 4 ds) := by
  rintro ds k hl ⟨f, g, rfl, h1, h2, hk⟩
  have sm2 : Sm 2 := by unfold Sm; omega
  simp [t_meet_faces, startP, sm2]
  rw [zipD_enc rowD rowD]
  refine compP_map (fun p : Row × Row => D.tup [rowD p.1, rowD p.2]) (fun p => rowD (meetR p.1 p.2)) _ (by rw [List.length_zip]; omega) (fun p hp C hC => ?_) ?_
  · simp
    exact ⟨p.1, p.2, rfl, h2 p hp, by simpa using hC⟩
  · have e : ∀ a b : List Row, ((a.zip b).map fun p => rowD (meetR p.1 p.2)) = (List.zipWith meetR a b).map rowD := by
      intro a
      induction a with
      | nil => intro b; rfl
      | cons x a ih =>
        intro b
        cases b with
        | nil => rfl
        | cons y b => simp only [List.zip_cons_cons, List.map_cons, List.zipWith_cons_cons, ih b]
    rw [e]
    have hk' : k (.tup [.tup (f.1.map D.str), .tup ((List.zipWith meetR f.2 g.2).map rowD)]) := hk
    simpa using hk'
def noC (f : Face) : Bool := f.2.all fun r => decide (r = ([], 0))
theorem rowD_zero {r : Row} : (rowD r = .tup [.tup [], .int 0]) = (r = ([], 0)) := propext ⟨fun h => by
  obtain ⟨a, b⟩ := r
  simp at h
  rw [h.1, h.2], fun h => by rw [h]; rfl⟩
def T_no_cells : FT := fun ds k => ∃ f : Face, ds = [faceD f] ∧ k (.bl (noC f))
def t_no_cells : TXS := (sSeq (sFor (iX (xIx (rVar 0) (xC (.int 1)))) (gN 1) (sIf (tB1 (xBin neD (xVar 1) (xTup (aCons (rOf (xTup aNil)) (aCons (rOf (xC (.int 0))) aNil))))) (sRet (xC (.bl false))) sNext)) (sRet (xC (.bl true))))
theorem pure_no_cells : ∀ ds k, ds.length = 1 → T_no_cells ds k → t_no_cells { nx := fun _ => k .non, rt := k } (startP 2 ds) := by
  rintro ds k hl ⟨f, rfl, hk⟩
  have sm2 : Sm 2 := by unfold Sm; omega
  have sm0 : Sm 0 := by unfold Sm; omega
  simp [t_no_cells, startP]
  refine loopP_enc rowD (fun xs ρ => k (.bl (xs.all fun r => decide (r = ([], 0)))) ∧ ∃ y, ρ = [some (.d (faceD f)), y]) (fun ρ q => ?_) (fun r xs ρ C hC q => ?_) _ _ ⟨hk, _, rfl⟩
  · exact q.1
  · obtain ⟨h, y, rfl⟩ := q
    simp [sm2, sm0]
    rw [List.all_cons] at h
    by_cases c : r = ([], 0)
    · subst c
      have h2 := hC [some (.d (faceD f)), some (.d (rowD ([], 0)))] ⟨by simpa using h, _, rfl⟩
      simpa using h2
    · have c2 : ¬ (r.1 = [] ∧ r.2 = 0) := fun q => c (Prod.ext q.1 q.2)
      simp [c] at h
      simp [c2]
      exact h
end K96
end

section
set_option Elab.async false
set_option linter.all false
set_option maxRecDepth 100000
set_option maxHeartbeats 2000000
namespace K96
open PySem PySem.Spec PyProof.Rows L2 PL
@[simp] theorem w_same_ahead : ((("same" : Str) = ("ahead" : Str))) = False := eq_false (by decide +kernel)
@[simp] theorem w_same_size : ((("same" : Str) = ("size" : Str))) = False := eq_false (by decide +kernel)
@[simp] theorem w_same_member : ((("same" : Str) = ("member" : Str))) = False := eq_false (by decide +kernel)
@[simp] theorem w_same_amount : ((("same" : Str) = ("amount" : Str))) = False := eq_false (by decide +kernel)
@[simp] theorem w_same_board : ((("same" : Str) = ("board" : Str))) = False := eq_false (by decide +kernel)
@[simp] theorem w_same_seat : ((("same" : Str) = ("seat" : Str))) = False := eq_false (by decide +kernel)
@[simp] theorem w_same_like : ((("same" : Str) = ("like" : Str))) = False := eq_false (by decide +kernel)
@[simp] theorem w_same_unlike : ((("same" : Str) = ("unlike" : Str))) = False := eq_false (by decide +kernel)
@[simp] theorem w_same_atmost : ((("same" : Str) = ("atmost" : Str))) = False := eq_false (by decide +kernel)
@[simp] theorem w_same_atleast : ((("same" : Str) = ("atleast" : Str))) = False := eq_false (by decide +kernel)
@[simp] theorem w_same_no : ((("same" : Str) = ("no" : Str))) = False := eq_false (by decide +kernel)
@[simp] theorem w_same_yes : ((("same" : Str) = ("yes" : Str))) = False := eq_false (by decide +kernel)
@[simp] theorem w_same_end : ((("same" : Str) = ("end" : Str))) = False := eq_false (by decide +kernel)
@[simp] theorem w_same_split : ((("same" : Str) = ("split" : Str))) = False := eq_false (by decide +kernel)
@[simp] theorem w_ahead_same : ((("ahead" : Str) = ("same" : Str))) = False := eq_false (by decide +kernel)
@[simp] theorem w_ahead_size : ((("ahead" : Str) = ("size" : Str))) = False := eq_false (by decide +kernel)
@[simp] theorem w_ahead_member : ((("ahead" : Str) = ("member" : Str))) = False := eq_false (by decide +kernel)
@[simp] theorem w_ahead_amount : ((("ahead" : Str) = ("amount" : Str))) = False := eq_false (by decide +kernel)
@[simp] theorem w_ahead_board : ((("ahead" : Str) = ("board" : Str))) = False := eq_false (by decide +kernel)
@[simp] theorem w_ahead_seat : ((("ahead" : Str) = ("seat" : Str))) = False := eq_false (by decide +kernel)
@[simp] theorem w_ahead_like : ((("ahead" : Str) = ("like" : Str))) = False := eq_false (by decide +kernel)
@[simp] theorem w_ahead_unlike : ((("ahead" : Str) = ("unlike" : Str))) = False := eq_false (by decide +kernel)
@[simp] theorem w_ahead_atmost : ((("ahead" : Str) = ("atmost" : Str))) = False := eq_false (by decide +kernel)
@[simp] theorem w_ahead_atleast : ((("ahead" : Str) = ("atleast" : Str))) = False := eq_false (by decide +kernel)
@[simp] theorem w_ahead_no : ((("ahead" : Str) = ("no" : Str))) = False := eq_false (by decide +kernel)
@[simp] theorem w_ahead_yes : ((("ahead" : Str) = ("yes" : Str))) = False := eq_false (by decide +kernel)
@[simp] theorem w_ahead_end : ((("ahead" : Str) = ("end" : Str))) = False := eq_false (by decide +kernel)
@[simp] theorem w_ahead_split : ((("ahead" : Str) = ("split" : Str))) = False := eq_false (by decide +kernel)
@[simp] theorem w_size_same : ((("size" : Str) = ("same" : Str))) = False := eq_false (by decide +kernel)
@[simp] theorem w_size_ahead : ((("size" : Str) = ("ahead" : Str))) = False := eq_false (by decide +kernel)
@[simp] theorem w_size_member : ((("size" : Str) = ("member" : Str))) = False := eq_false (by decide +kernel)
@[simp] theorem w_size_amount : ((("size" : Str) = ("amount" : Str))) = False := eq_false (by decide +kernel)
@[simp] theorem w_size_board : ((("size" : Str) = ("board" : Str))) = False := eq_false (by decide +kernel)
@[simp] theorem w_size_seat : ((("size" : Str) = ("seat" : Str))) = False := eq_false (by decide +kernel)
@[simp] theorem w_size_like : ((("size" : Str) = ("like" : Str))) = False := eq_false (by decide +kernel)
@[simp] theorem w_size_unlike : ((("size" : Str) = ("unlike" : Str))) = False := eq_false (by decide +kernel)
@[simp] theorem w_size_atmost : ((("size" : Str) = ("atmost" : Str))) = False := eq_false (by decide +kernel)
@[simp] theorem w_size_atleast : ((("size" : Str) = ("atleast" : Str))) = False := eq_false (by decide +kernel)
@[simp] theorem w_size_no : ((("size" : Str) = ("no" : Str))) = False := eq_false (by decide +kernel)
@[simp] theorem w_size_yes : ((("size" : Str) = ("yes" : Str))) = False := eq_false (by decide +kernel)
@[simp] theorem w_size_end : ((("size" : Str) = ("end" : Str))) = False := eq_false (by decide +kernel)
@[simp] theorem w_size_split : ((("size" : Str) = ("split" : Str))) = False := eq_false (by decide +kernel)
@[simp] theorem w_member_same : ((("member" : Str) = ("same" : Str))) = False := eq_false (by decide +kernel)
@[simp] theorem w_member_ahead : ((("member" : Str) = ("ahead" : Str))) = False := eq_false (by decide +kernel)
@[simp] theorem w_member_size : ((("member" : Str) = ("size" : Str))) = False := eq_false (by decide +kernel)
@[simp] theorem w_member_amount : ((("member" : Str) = ("amount" : Str))) = False := eq_false (by decide +kernel)
@[simp] theorem w_member_board : ((("member" : Str) = ("board" : Str))) = False := eq_false (by decide +kernel)
@[simp] theorem w_member_seat : ((("member" : Str) = ("seat" : Str))) = False := eq_false (by decide +kernel)
@[simp] theorem w_member_like : ((("member" : Str) = ("like" : Str))) = False := eq_false (by decide +kernel)
@[simp] theorem w_member_unlike : ((("member" : Str) = ("unlike" : Str))) = False := eq_false (by decide +kernel)
@[simp] theorem w_member_atmost : ((("member" : Str) = ("atmost" : Str))) = False := eq_false (by decide +kernel)
@[simp] theorem w_member_atleast : ((("member" : Str) = ("atleast" : Str))) = False := eq_false (by decide +kernel)
@[simp] theorem w_member_no : ((("member" : Str) = ("no" : Str))) = False := eq_false (by decide +kernel)
@[simp] theorem w_member_yes : ((("member" : Str) = ("yes" : Str))) = False := eq_false (by decide +kernel)
@[simp] theorem w_member_end : ((("member" : Str) = ("end" : Str))) = False := eq_false (by decide +kernel)
@[simp] theorem w_member_split : ((("member" : Str) = ("split" : Str))) = False := eq_false (by decide +kernel)
@[simp] theorem w_amount_same : ((("amount" : Str) = ("same" : Str))) = False := eq_false (by decide +kernel)
@[simp] theorem w_amount_ahead : ((("amount" : Str) = ("ahead" : Str))) = False := eq_false (by decide +kernel)
@[simp] theorem w_amount_size : ((("amount" : Str) = ("size" : Str))) = False := eq_false (by decide +kernel)
@[simp] theorem w_amount_member : ((("amount" : Str) = ("member" : Str))) = False := eq_false (by decide +kernel)
@[simp] theorem w_amount_board : ((("amount" : Str) = ("board" : Str))) = False := eq_false (by decide +kernel)
@[simp] theorem w_amount_seat : ((("amount" : Str) = ("seat" : Str))) = False := eq_false (by decide +kernel)
@[simp] theorem w_amount_like : ((("amount" : Str) = ("like" : Str))) = False := eq_false (by decide +kernel)
@[simp] theorem w_amount_unlike : ((("amount" : Str) = ("unlike" : Str))) = False := eq_false (by decide +kernel)
@[simp] theorem w_amount_atmost : ((("amount" : Str) = ("atmost" : Str))) = False := eq_false (by decide +kernel)
@[simp] theorem w_amount_atleast : ((("amount" : Str) = ("atleast" : Str))) = False := eq_false (by decide +kernel)
@[simp] theorem w_amount_no : ((("amount" : Str) = ("no" : Str))) = False := eq_false (by decide +kernel)
@[simp] theorem w_amount_yes : ((("amount" : Str) = ("yes" : Str))) = False := eq_false (by decide +kernel)
@[simp] theorem w_amount_end : ((("amount" : Str) = ("end" : Str))) = False := eq_false (by decide +kernel)
@[simp] theorem w_amount_split : ((("amount" : Str) = ("split" : Str))) = False := eq_false (by decide +kernel)
@[simp] theorem w_board_same : ((("board" : Str) = ("same" : Str))) = False := eq_false (by decide +kernel)
@[simp] theorem w_board_ahead : ((("board" : Str) = ("ahead" : Str))) = False := eq_false (by decide +kernel)
@[simp] theorem w_board_size : ((("board" : Str) = ("size" : Str))) = False := eq_false (by decide +kernel)
@[simp] theorem w_board_member : ((("board" : Str) = ("member" : Str))) = False := eq_false (by decide +kernel)
@[simp] theorem w_board_amount : ((("board" : Str) = ("amount" : Str))) = False := eq_false (by decide +kernel)
@[simp] theorem w_board_seat : ((("board" : Str) = ("seat" : Str))) = False := eq_false (by decide +kernel)
@[simp] theorem w_board_like : ((("board" : Str) = ("like" : Str))) = False := eq_false (by decide +kernel)
@[simp] theorem w_board_unlike : ((("board" : Str) = ("unlike" : Str))) = False := eq_false (by decide +kernel)
@[simp] theorem w_board_atmost : ((("board" : Str) = ("atmost" : Str))) = False := eq_false (by decide +kernel)
@[simp] theorem w_board_atleast : ((("board" : Str) = ("atleast" : Str))) = False := eq_false (by decide +kernel)
@[simp] theorem w_board_no : ((("board" : Str) = ("no" : Str))) = False := eq_false (by decide +kernel)
@[simp] theorem w_board_yes : ((("board" : Str) = ("yes" : Str))) = False := eq_false (by decide +kernel)
@[simp] theorem w_board_end : ((("board" : Str) = ("end" : Str))) = False := eq_false (by decide +kernel)
@[simp] theorem w_board_split : ((("board" : Str) = ("split" : Str))) = False := eq_false (by decide +kernel)
@[simp] theorem w_seat_same : ((("seat" : Str) = ("same" : Str))) = False := eq_false (by decide +kernel)
@[simp] theorem w_seat_ahead : ((("seat" : Str) = ("ahead" : Str))) = False := eq_false (by decide +kernel)
@[simp] theorem w_seat_size : ((("seat" : Str) = ("size" : Str))) = False := eq_false (by decide +kernel)
@[simp] theorem w_seat_member : ((("seat" : Str) = ("member" : Str))) = False := eq_false (by decide +kernel)
@[simp] theorem w_seat_amount : ((("seat" : Str) = ("amount" : Str))) = False := eq_false (by decide +kernel)
@[simp] theorem w_seat_board : ((("seat" : Str) = ("board" : Str))) = False := eq_false (by decide +kernel)
@[simp] theorem w_seat_like : ((("seat" : Str) = ("like" : Str))) = False := eq_false (by decide +kernel)
@[simp] theorem w_seat_unlike : ((("seat" : Str) = ("unlike" : Str))) = False := eq_false (by decide +kernel)
@[simp] theorem w_seat_atmost : ((("seat" : Str) = ("atmost" : Str))) = False := eq_false (by decide +kernel)
@[simp] theorem w_seat_atleast : ((("seat" : Str) = ("atleast" : Str))) = False := eq_false (by decide +kernel)
@[simp] theorem w_seat_no : ((("seat" : Str) = ("no" : Str))) = False := eq_false (by decide +kernel)
@[simp] theorem w_seat_yes : ((("seat" : Str) = ("yes" : Str))) = False := eq_false (by decide +kernel)
@[simp] theorem w_seat_end : ((("seat" : Str) = ("end" : Str))) = False := eq_false (by decide +kernel)
@[simp] theorem w_seat_split : ((("seat" : Str) = ("split" : Str))) = False := eq_false (by decide +kernel)
@[simp] theorem w_like_same : ((("like" : Str) = ("same" : Str))) = False := eq_false (by decide +kernel)
@[simp] theorem w_like_ahead : ((("like" : Str) = ("ahead" : Str))) = False := eq_false (by decide +kernel)
@[simp] theorem w_like_size : ((("like" : Str) = ("size" : Str))) = False := eq_false (by decide +kernel)
@[simp] theorem w_like_member : ((("like" : Str) = ("member" : Str))) = False := eq_false (by decide +kernel)
@[simp] theorem w_like_amount : ((("like" : Str) = ("amount" : Str))) = False := eq_false (by decide +kernel)
@[simp] theorem w_like_board : ((("like" : Str) = ("board" : Str))) = False := eq_false (by decide +kernel)
@[simp] theorem w_like_seat : ((("like" : Str) = ("seat" : Str))) = False := eq_false (by decide +kernel)
@[simp] theorem w_like_unlike : ((("like" : Str) = ("unlike" : Str))) = False := eq_false (by decide +kernel)
@[simp] theorem w_like_atmost : ((("like" : Str) = ("atmost" : Str))) = False := eq_false (by decide +kernel)
@[simp] theorem w_like_atleast : ((("like" : Str) = ("atleast" : Str))) = False := eq_false (by decide +kernel)
@[simp] theorem w_like_no : ((("like" : Str) = ("no" : Str))) = False := eq_false (by decide +kernel)
@[simp] theorem w_like_yes : ((("like" : Str) = ("yes" : Str))) = False := eq_false (by decide +kernel)
@[simp] theorem w_like_end : ((("like" : Str) = ("end" : Str))) = False := eq_false (by decide +kernel)
@[simp] theorem w_like_split : ((("like" : Str) = ("split" : Str))) = False := eq_false (by decide +kernel)
@[simp] theorem w_unlike_same : ((("unlike" : Str) = ("same" : Str))) = False := eq_false (by decide +kernel)
@[simp] theorem w_unlike_ahead : ((("unlike" : Str) = ("ahead" : Str))) = False := eq_false (by decide +kernel)
@[simp] theorem w_unlike_size : ((("unlike" : Str) = ("size" : Str))) = False := eq_false (by decide +kernel)
@[simp] theorem w_unlike_member : ((("unlike" : Str) = ("member" : Str))) = False := eq_false (by decide +kernel)
@[simp] theorem w_unlike_amount : ((("unlike" : Str) = ("amount" : Str))) = False := eq_false (by decide +kernel)
@[simp] theorem w_unlike_board : ((("unlike" : Str) = ("board" : Str))) = False := eq_false (by decide +kernel)
@[simp] theorem w_unlike_seat : ((("unlike" : Str) = ("seat" : Str))) = False := eq_false (by decide +kernel)
@[simp] theorem w_unlike_like : ((("unlike" : Str) = ("like" : Str))) = False := eq_false (by decide +kernel)
@[simp] theorem w_unlike_atmost : ((("unlike" : Str) = ("atmost" : Str))) = False := eq_false (by decide +kernel)
@[simp] theorem w_unlike_atleast : ((("unlike" : Str) = ("atleast" : Str))) = False := eq_false (by decide +kernel)
@[simp] theorem w_unlike_no : ((("unlike" : Str) = ("no" : Str))) = False := eq_false (by decide +kernel)
@[simp] theorem w_unlike_yes : ((("unlike" : Str) = ("yes" : Str))) = False := eq_false (by decide +kernel)
@[simp] theorem w_unlike_end : ((("unlike" : Str) = ("end" : Str))) = False := eq_false (by decide +kernel)
@[simp] theorem w_unlike_split : ((("unlike" : Str) = ("split" : Str))) = False := eq_false (by decide +kernel)
@[simp] theorem w_atmost_same : ((("atmost" : Str) = ("same" : Str))) = False := eq_false (by decide +kernel)
@[simp] theorem w_atmost_ahead : ((("atmost" : Str) = ("ahead" : Str))) = False := eq_false (by decide +kernel)
@[simp] theorem w_atmost_size : ((("atmost" : Str) = ("size" : Str))) = False := eq_false (by decide +kernel)
@[simp] theorem w_atmost_member : ((("atmost" : Str) = ("member" : Str))) = False := eq_false (by decide +kernel)
@[simp] theorem w_atmost_amount : ((("atmost" : Str) = ("amount" : Str))) = False := eq_false (by decide +kernel)
@[simp] theorem w_atmost_board : ((("atmost" : Str) = ("board" : Str))) = False := eq_false (by decide +kernel)
@[simp] theorem w_atmost_seat : ((("atmost" : Str) = ("seat" : Str))) = False := eq_false (by decide +kernel)
@[simp] theorem w_atmost_like : ((("atmost" : Str) = ("like" : Str))) = False := eq_false (by decide +kernel)
@[simp] theorem w_atmost_unlike : ((("atmost" : Str) = ("unlike" : Str))) = False := eq_false (by decide +kernel)
@[simp] theorem w_atmost_atleast : ((("atmost" : Str) = ("atleast" : Str))) = False := eq_false (by decide +kernel)
@[simp] theorem w_atmost_no : ((("atmost" : Str) = ("no" : Str))) = False := eq_false (by decide +kernel)
@[simp] theorem w_atmost_yes : ((("atmost" : Str) = ("yes" : Str))) = False := eq_false (by decide +kernel)
@[simp] theorem w_atmost_end : ((("atmost" : Str) = ("end" : Str))) = False := eq_false (by decide +kernel)
@[simp] theorem w_atmost_split : ((("atmost" : Str) = ("split" : Str))) = False := eq_false (by decide +kernel)
@[simp] theorem w_atleast_same : ((("atleast" : Str) = ("same" : Str))) = False := eq_false (by decide +kernel)
@[simp] theorem w_atleast_ahead : ((("atleast" : Str) = ("ahead" : Str))) = False := eq_false (by decide +kernel)
@[simp] theorem w_atleast_size : ((("atleast" : Str) = ("size" : Str))) = False := eq_false (by decide +kernel)
@[simp] theorem w_atleast_member : ((("atleast" : Str) = ("member" : Str))) = False := eq_false (by decide +kernel)
@[simp] theorem w_atleast_amount : ((("atleast" : Str) = ("amount" : Str))) = False := eq_false (by decide +kernel)
@[simp] theorem w_atleast_board : ((("atleast" : Str) = ("board" : Str))) = False := eq_false (by decide +kernel)
@[simp] theorem w_atleast_seat : ((("atleast" : Str) = ("seat" : Str))) = False := eq_false (by decide +kernel)
@[simp] theorem w_atleast_like : ((("atleast" : Str) = ("like" : Str))) = False := eq_false (by decide +kernel)
@[simp] theorem w_atleast_unlike : ((("atleast" : Str) = ("unlike" : Str))) = False := eq_false (by decide +kernel)
@[simp] theorem w_atleast_atmost : ((("atleast" : Str) = ("atmost" : Str))) = False := eq_false (by decide +kernel)
@[simp] theorem w_atleast_no : ((("atleast" : Str) = ("no" : Str))) = False := eq_false (by decide +kernel)
@[simp] theorem w_atleast_yes : ((("atleast" : Str) = ("yes" : Str))) = False := eq_false (by decide +kernel)
@[simp] theorem w_atleast_end : ((("atleast" : Str) = ("end" : Str))) = False := eq_false (by decide +kernel)
@[simp] theorem w_atleast_split : ((("atleast" : Str) = ("split" : Str))) = False := eq_false (by decide +kernel)
@[simp] theorem w_no_same : ((("no" : Str) = ("same" : Str))) = False := eq_false (by decide +kernel)
@[simp] theorem w_no_ahead : ((("no" : Str) = ("ahead" : Str))) = False := eq_false (by decide +kernel)
@[simp] theorem w_no_size : ((("no" : Str) = ("size" : Str))) = False := eq_false (by decide +kernel)
@[simp] theorem w_no_member : ((("no" : Str) = ("member" : Str))) = False := eq_false (by decide +kernel)
@[simp] theorem w_no_amount : ((("no" : Str) = ("amount" : Str))) = False := eq_false (by decide +kernel)
@[simp] theorem w_no_board : ((("no" : Str) = ("board" : Str))) = False := eq_false (by decide +kernel)
@[simp] theorem w_no_seat : ((("no" : Str) = ("seat" : Str))) = False := eq_false (by decide +kernel)
@[simp] theorem w_no_like : ((("no" : Str) = ("like" : Str))) = False := eq_false (by decide +kernel)
@[simp] theorem w_no_unlike : ((("no" : Str) = ("unlike" : Str))) = False := eq_false (by decide +kernel)
@[simp] theorem w_no_atmost : ((("no" : Str) = ("atmost" : Str))) = False := eq_false (by decide +kernel)
@[simp] theorem w_no_atleast : ((("no" : Str) = ("atleast" : Str))) = False := eq_false (by decide +kernel)
@[simp] theorem w_no_yes : ((("no" : Str) = ("yes" : Str))) = False := eq_false (by decide +kernel)
@[simp] theorem w_no_end : ((("no" : Str) = ("end" : Str))) = False := eq_false (by decide +kernel)
@[simp] theorem w_no_split : ((("no" : Str) = ("split" : Str))) = False := eq_false (by decide +kernel)
@[simp] theorem w_yes_same : ((("yes" : Str) = ("same" : Str))) = False := eq_false (by decide +kernel)
@[simp] theorem w_yes_ahead : ((("yes" : Str) = ("ahead" : Str))) = False := eq_false (by decide +kernel)
@[simp] theorem w_yes_size : ((("yes" : Str) = ("size" : Str))) = False := eq_false (by decide +kernel)
@[simp] theorem w_yes_member : ((("yes" : Str) = ("member" : Str))) = False := eq_false (by decide +kernel)
@[simp] theorem w_yes_amount : ((("yes" : Str) = ("amount" : Str))) = False := eq_false (by decide +kernel)
@[simp] theorem w_yes_board : ((("yes" : Str) = ("board" : Str))) = False := eq_false (by decide +kernel)
@[simp] theorem w_yes_seat : ((("yes" : Str) = ("seat" : Str))) = False := eq_false (by decide +kernel)
@[simp] theorem w_yes_like : ((("yes" : Str) = ("like" : Str))) = False := eq_false (by decide +kernel)
@[simp] theorem w_yes_unlike : ((("yes" : Str) = ("unlike" : Str))) = False := eq_false (by decide +kernel)
@[simp] theorem w_yes_atmost : ((("yes" : Str) = ("atmost" : Str))) = False := eq_false (by decide +kernel)
@[simp] theorem w_yes_atleast : ((("yes" : Str) = ("atleast" : Str))) = False := eq_false (by decide +kernel)
@[simp] theorem w_yes_no : ((("yes" : Str) = ("no" : Str))) = False := eq_false (by decide +kernel)
@[simp] theorem w_yes_end : ((("yes" : Str) = ("end" : Str))) = False := eq_false (by decide +kernel)
@[simp] theorem w_yes_split : ((("yes" : Str) = ("split" : Str))) = False := eq_false (by decide +kernel)
@[simp] theorem w_end_same : ((("end" : Str) = ("same" : Str))) = False := eq_false (by decide +kernel)
@[simp] theorem w_end_ahead : ((("end" : Str) = ("ahead" : Str))) = False := eq_false (by decide +kernel)
@[simp] theorem w_end_size : ((("end" : Str) = ("size" : Str))) = False := eq_false (by decide +kernel)
@[simp] theorem w_end_member : ((("end" : Str) = ("member" : Str))) = False := eq_false (by decide +kernel)
@[simp] theorem w_end_amount : ((("end" : Str) = ("amount" : Str))) = False := eq_false (by decide +kernel)
@[simp] theorem w_end_board : ((("end" : Str) = ("board" : Str))) = False := eq_false (by decide +kernel)
@[simp] theorem w_end_seat : ((("end" : Str) = ("seat" : Str))) = False := eq_false (by decide +kernel)
@[simp] theorem w_end_like : ((("end" : Str) = ("like" : Str))) = False := eq_false (by decide +kernel)
@[simp] theorem w_end_unlike : ((("end" : Str) = ("unlike" : Str))) = False := eq_false (by decide +kernel)
@[simp] theorem w_end_atmost : ((("end" : Str) = ("atmost" : Str))) = False := eq_false (by decide +kernel)
@[simp] theorem w_end_atleast : ((("end" : Str) = ("atleast" : Str))) = False := eq_false (by decide +kernel)
@[simp] theorem w_end_no : ((("end" : Str) = ("no" : Str))) = False := eq_false (by decide +kernel)
@[simp] theorem w_end_yes : ((("end" : Str) = ("yes" : Str))) = False := eq_false (by decide +kernel)
@[simp] theorem w_end_split : ((("end" : Str) = ("split" : Str))) = False := eq_false (by decide +kernel)
@[simp] theorem w_split_same : ((("split" : Str) = ("same" : Str))) = False := eq_false (by decide +kernel)
@[simp] theorem w_split_ahead : ((("split" : Str) = ("ahead" : Str))) = False := eq_false (by decide +kernel)
@[simp] theorem w_split_size : ((("split" : Str) = ("size" : Str))) = False := eq_false (by decide +kernel)
@[simp] theorem w_split_member : ((("split" : Str) = ("member" : Str))) = False := eq_false (by decide +kernel)
@[simp] theorem w_split_amount : ((("split" : Str) = ("amount" : Str))) = False := eq_false (by decide +kernel)
@[simp] theorem w_split_board : ((("split" : Str) = ("board" : Str))) = False := eq_false (by decide +kernel)
@[simp] theorem w_split_seat : ((("split" : Str) = ("seat" : Str))) = False := eq_false (by decide +kernel)
@[simp] theorem w_split_like : ((("split" : Str) = ("like" : Str))) = False := eq_false (by decide +kernel)
@[simp] theorem w_split_unlike : ((("split" : Str) = ("unlike" : Str))) = False := eq_false (by decide +kernel)
@[simp] theorem w_split_atmost : ((("split" : Str) = ("atmost" : Str))) = False := eq_false (by decide +kernel)
@[simp] theorem w_split_atleast : ((("split" : Str) = ("atleast" : Str))) = False := eq_false (by decide +kernel)
@[simp] theorem w_split_no : ((("split" : Str) = ("no" : Str))) = False := eq_false (by decide +kernel)
@[simp] theorem w_split_yes : ((("split" : Str) = ("yes" : Str))) = False := eq_false (by decide +kernel)
@[simp] theorem w_split_end : ((("split" : Str) = ("end" : Str))) = False := eq_false (by decide +kernel)
@[simp] theorem ok_w_same : PyData.strOk ("same" : Str) = true := by decide +kernel
@[simp] theorem ok_w_ahead : PyData.strOk ("ahead" : Str) = true := by decide +kernel
@[simp] theorem ok_w_size : PyData.strOk ("size" : Str) = true := by decide +kernel
@[simp] theorem ok_w_member : PyData.strOk ("member" : Str) = true := by decide +kernel
@[simp] theorem ok_w_amount : PyData.strOk ("amount" : Str) = true := by decide +kernel
@[simp] theorem ok_w_board : PyData.strOk ("board" : Str) = true := by decide +kernel
@[simp] theorem ok_w_seat : PyData.strOk ("seat" : Str) = true := by decide +kernel
@[simp] theorem ok_w_like : PyData.strOk ("like" : Str) = true := by decide +kernel
@[simp] theorem ok_w_unlike : PyData.strOk ("unlike" : Str) = true := by decide +kernel
@[simp] theorem ok_w_atmost : PyData.strOk ("atmost" : Str) = true := by decide +kernel
@[simp] theorem ok_w_atleast : PyData.strOk ("atleast" : Str) = true := by decide +kernel
@[simp] theorem ok_w_no : PyData.strOk ("no" : Str) = true := by decide +kernel
@[simp] theorem ok_w_yes : PyData.strOk ("yes" : Str) = true := by decide +kernel
@[simp] theorem ok_w_end : PyData.strOk ("end" : Str) = true := by decide +kernel
@[simp] theorem ok_w_split : PyData.strOk ("split" : Str) = true := by decide +kernel
/-- a right face -/
structure FaceOk (f : Face) : Prop where
  n3 : f.1.length ≤ 3
  good : ∀ x ∈ f.1, GoodN x
  ok : ∀ x ∈ f.1, PyData.strOk x = true
  ris : RisS f.1
  len : f.2.length = (arrs f.1.length).length
  rows : ∀ p ∈ (arrs f.1.length).zip f.2, RowV p.2 ∧ ¬ (0 < leastOf p.2 ∧ leastOf p.2 < ctot p.1)
def T_is_face : FT := fun ds k => ∃ f : Face, ds = [faceD f] ∧ FaceOk f ∧ k (.bl true)
def t_is_face : TXS := (sSeq (sIf (tOr1 (tNot1 (tB1 (xFn 1 T_is_pair (aCons (rVar 0) aNil)))) (tOr1 (tNot1 (tB1 (xFn 2 T_is_name_row (aCons (rOf (xIx (rVar 0) (xC (.int 0)))) (aCons (rOf (xC (.int 4))) aNil))))) (tNot1 (tB1 (xIsi isTupD (rOf (xIx (rVar 0) (xC (.int 1))))))))) (sRet (xC (.bl false))) sNext) (sSeq (sSet 1 (xFn 1 T_all_arrangements (aCons (rOf (xCall lenD (aCons (rOf (xIx (rVar 0) (xC (.int 0)))) aNil))) aNil))) (sSeq (sIf (tB1 (xBin neD (xCall lenD (aCons (rVar 1) aNil)) (xCall lenD (aCons (rOf (xIx (rVar 0) (xC (.int 1)))) aNil)))) (sRet (xC (.bl false))) sNext) (sSeq (sFor (iZip (xVar 1) (xIx (rVar 0) (xC (.int 1)))) (gT [2, 3]) (sIf (tOr1 (tNot1 (tB1 (xFn 1 T_is_sizes (aCons (rVar 3) aNil)))) (tB1 (xChain ltD ltD (xC (.int 0)) (xFn 1 T_least_of (aCons (rVar 3) aNil)) (xFn 1 T_class_total (aCons (rVar 2) aNil))))) (sRet (xC (.bl false))) sNext)) (sRet (xC (.bl true)))))))
theorem pure_is_face : ∀ ds k, ds.length = 1 → T_is_face ds k → t_is_face { nx := fun _ => k .non, rt := k } (startP 4 ds) := by
  rintro ds k hl ⟨f, rfl, h, hk⟩
  have n3 := h.n3
  simp [t_is_face, startP, T_is_pair, isDicD, isTupD]
  refine ⟨f.1, 4, rfl, by omega, by omega, h.good, h.ris, ?_⟩
  simp
  refine ⟨f.1.length, rfl, by omega, ?_⟩
  simp [h.len]
  rw [zipD_enc arrD rowD]
  refine loopP_enc (fun p : List Int × Row => D.tup [arrD p.1, rowD p.2]) (fun xs ρ => (∀ p ∈ xs, RowV p.2 ∧ ¬ (0 < leastOf p.2 ∧ leastOf p.2 < ctot p.1)) ∧ ∃ y z, ρ = [some (.d (faceD f)), some (.d (.tup ((arrs f.1.length).map arrD))), y, z]) (fun ρ q => ?_) (fun p xs ρ C hC q => ?_) _ _ ⟨h.rows, _, _, rfl⟩
  · exact hk
  · obtain ⟨hr, y, z, rfl⟩ := q
    obtain ⟨r1, r2⟩ := hr p (List.mem_cons_self ..)
    have h2 := hC [some (.d (faceD f)), some (.d (.tup ((arrs f.1.length).map arrD))), some (.d (arrD p.1)), some (.d (rowD p.2))] ⟨fun z hz => hr z (List.mem_cons_of_mem _ hz), _, _, rfl⟩
    simp
    refine ⟨p.2, rfl, r1, ?_⟩
    simp
    refine ⟨p.2, rfl, ?_⟩
    by_cases c1 : 0 < leastOf p.2
    · have c2 : ¬ leastOf p.2 < ctot p.1 := fun c2 => r2 ⟨c1, c2⟩
      simp [c1, T_class_total, c2]
      exact h2
    · simp [c1]
      exact h2
def T_are_names : FT := fun ds k => ∃ xs : List Str, ds = [.tup (xs.map D.str)] ∧ (∀ x ∈ xs, GoodN x) ∧ k (.bl true)
def t_are_names : TXS := (sSeq (sFor (iV 0) (gN 1) (sIf (tNot1 (tB1 (xFn 1 T_is_name_text (aCons (rVar 1) aNil)))) (sRet (xC (.bl false))) sNext)) (sRet (xC (.bl true))))
theorem pure_are_names : ∀ ds k, ds.length = 1 → T_are_names ds k → t_are_names { nx := fun _ => k .non, rt := k } (startP 2 ds) := by
  rintro ds k hl ⟨xs, rfl, h, hk⟩
  simp [t_are_names, startP]
  refine loopP_enc D.str (fun ys ρ => (∀ x ∈ ys, GoodN x) ∧ ∃ y, ρ = [some (.d (.tup (xs.map D.str))), y]) (fun ρ q => ?_) (fun d ds ρ C hC q => ?_) _ _ ⟨h, _, rfl⟩
  · exact hk
  · obtain ⟨g, y, rfl⟩ := q
    simp [T_is_name_text]
    refine ⟨g d (List.mem_cons_self ..), hC _ ⟨fun z hz => g z (List.mem_cons_of_mem _ hz), _, rfl⟩⟩
inductive Que where
  | same (x y : Str) | size (n : Int)
  deriving DecidableEq
@[reducible] def queD : Que → D
  | .same x y => .tup [.str "same", .str x, .str y]
  | .size n => .tup [.str "size", .int n]
def QueOk : Que → Prop
  | .same x y => GoodN x ∧ GoodN y ∧ x.cps.toList < y.cps.toList ∧ PyData.strOk x = true ∧ PyData.strOk y = true
  | .size n => 1 ≤ n ∧ n ≤ 99
def T_is_region : FT := fun _ _ => False
def T_decided_board : FT := fun _ _ => False
def T_is_question : FT := fun ds k => ∃ q : Que, ds = [queD q] ∧ QueOk q ∧ k (.bl true)
def t_is_question : TXS := (sSeq (sIf (tOr1 (tNot1 (tB1 (xIsi isTupD (rVar 0)))) (tNot1 (tTr (rVar 0)))) (sRet (xC (.bl false))) sNext) (sSeq (sSet 1 (xIx (rVar 0) (xC (.int 0)))) (sSeq (sIf (tB1 (xIn (xVar 1) (rOf (xTup (aCons (rOf (xC (.str ("same" : Str)))) (aCons (rOf (xC (.str ("ahead" : Str)))) aNil)))) (inD false))) (sRet (xAnd (xFn 1 T_is_triple (aCons (rVar 0) aNil)) (xAnd (xFn 1 T_are_names (aCons (rOf (xTail (xVar 0))) aNil)) (xBin ltD (xIx (rVar 0) (xC (.int 1))) (xIx (rVar 0) (xC (.int 2))))))) sNext) (sSeq (sIf (tB1 (xBin eqD (xVar 1) (xC (.str ("size" : Str))))) (sRet (xAnd (xBin eqD (xCall lenD (aCons (rVar 0) aNil)) (xC (.int 2))) (xFn 3 T_is_number (aCons (rOf (xIx (rVar 0) (xC (.int 1)))) (aCons (rOf (xC (.int 1))) (aCons (rOf (xC (.int 99))) aNil)))))) sNext) (sSeq (sIf (tB1 (xBin eqD (xVar 1) (xC (.str ("member" : Str))))) (sRet (xAnd (xFn 1 T_is_triple (aCons (rVar 0) aNil)) (xFn 1 T_are_names (aCons (rOf (xTail (xVar 0))) aNil)))) sNext) (sSeq (sIf (tB1 (xBin eqD (xVar 1) (xC (.str ("amount" : Str))))) (sRet (xAnd (xFn 1 T_is_triple (aCons (rVar 0) aNil)) (xAnd (xFn 1 T_is_region (aCons (rOf (xIx (rVar 0) (xC (.int 1)))) aNil)) (xFn 3 T_is_number (aCons (rOf (xIx (rVar 0) (xC (.int 2)))) (aCons (rOf (xC (.int 0))) (aCons (rOf (xC (.int 99))) aNil))))))) sNext) (sSeq (sIf (tB1 (xBin eqD (xVar 1) (xC (.str ("board" : Str))))) (sRet (xBin eqD (xCall lenD (aCons (rVar 0) aNil)) (xC (.int 1)))) sNext) (sRet (xAnd (xBin eqD (xVar 1) (xC (.str ("seat" : Str)))) (xAnd (xBin eqD (xCall lenD (aCons (rVar 0) aNil)) (xC (.int 2))) (xFn 1 T_is_name_text (aCons (rOf (xIx (rVar 0) (xC (.int 1)))) aNil))))))))))))
theorem pure_is_question : ∀ ds k, ds.length = 1 → T_is_question ds k → t_is_question { nx := fun _ => k .non, rt := k } (startP 2 ds) := by
  rintro ds k hl ⟨q, rfl, h, hk⟩
  cases q with
  | same x y =>
    obtain ⟨h1, h2, h3, h4, h5⟩ := h
    have sm2 : Sm 2 := by unfold Sm; omega
    simp [t_is_question, startP, isDicD, isTupD, T_is_triple, h3, sm2]
    refine ⟨[x, y], rfl, fun z hz => ?_, ?_⟩
    · rcases List.mem_cons.mp hz with e | e
      · rw [e]; exact h1
      · rw [List.mem_singleton.mp e]; exact h2
    · simpa [h3] using hk
  | size n =>
    obtain ⟨h1, h2⟩ := h
    have sm2 : Sm 2 := by unfold Sm; omega
    simp [t_is_question, startP, isDicD, isTupD, sm2]
    refine ⟨n, 1, 99, rfl, ?_⟩
    simpa [h1, h2] using hk
inductive Fact where
  | like (x y : Str) | unlike (x y : Str) | atmost (n : Int) | atleast (n : Int)
@[reducible] def factD : Fact → D
  | .like x y => .tup [.str "like", .str x, .str y]
  | .unlike x y => .tup [.str "unlike", .str x, .str y]
  | .atmost n => .tup [.str "atmost", .int n]
  | .atleast n => .tup [.str "atleast", .int n]
def ansA : Que → Fact
  | .same x y => .like x y
  | .size n => .atmost n
def ansB : Que → Fact
  | .same x y => .unlike x y
  | .size n => .atleast (n + 1)
def T_answers : FT := fun ds k => ∃ (q : Que) (b f : D), ds = [queD q, b, f] ∧ k (.tup [factD (ansA q), factD (ansB q)])
def t_answers : TXS := (sSeq (sSet 3 (xIx (rVar 0) (xC (.int 0)))) (sSeq (sIf (tB1 (xBin eqD (xVar 3) (xC (.str ("size" : Str))))) (sRet (xTup (aCons (rOf (xTup (aCons (rOf (xC (.str ("atmost" : Str)))) (aCons (rOf (xIx (rVar 0) (xC (.int 1)))) aNil)))) (aCons (rOf (xTup (aCons (rOf (xC (.str ("atleast" : Str)))) (aCons (rOf (xBin addD (xIx (rVar 0) (xC (.int 1))) (xC (.int 1)))) aNil)))) aNil)))) sNext) (sSeq (sIf (tB1 (xBin eqD (xVar 3) (xC (.str ("amount" : Str))))) (sRet (xTup (aCons (rOf (xTup (aCons (rOf (xC (.str ("few" : Str)))) (aCons (rOf (xIx (rVar 0) (xC (.int 1)))) (aCons (rOf (xIx (rVar 0) (xC (.int 2)))) aNil))))) (aCons (rOf (xTup (aCons (rOf (xC (.str ("many" : Str)))) (aCons (rOf (xIx (rVar 0) (xC (.int 1)))) (aCons (rOf (xBin addD (xIx (rVar 0) (xC (.int 2))) (xC (.int 1)))) aNil))))) aNil)))) sNext) (sSeq (sIf (tB1 (xBin eqD (xVar 3) (xC (.str ("board" : Str))))) (sRet (xCall tupleD (aCons (rOf (xOfF (fLc (jR1 (xCall lenD (aCons (rVar 1) aNil))) (.name 4) tYesP (xTup (aCons (rOf (xC (.str ("board" : Str)))) (aCons (rVar 4) aNil))) [4]))) aNil))) sNext) (sSeq (sIf (tB1 (xBin eqD (xVar 3) (xC (.str ("seat" : Str))))) (sSeq (sSet 4 (xFn 1 T_decided_board (aCons (rVar 2) aNil))) (sSeq (sIf (tB1 (xBin eqD (xVar 4) (xNeg (xC (.int 1))))) (sRet (xTup aNil)) sNext) (sRet (xCall tupleD (aCons (rOf (xOfF (fLc (jR1 (xIx (rOf (xIx (rVar 1) (xVar 4))) (xC (.int 0)))) (.name 7) tYesP (xTup (aCons (rOf (xC (.str ("seat" : Str)))) (aCons (rOf (xIx (rVar 0) (xC (.int 1)))) (aCons (rVar 7) aNil)))) [7]))) aNil))))) sNext) (sSeq (sPar 5 6 (xIx (rVar 0) (xC (.int 1))) (xIx (rVar 0) (xC (.int 2)))) (sSeq (sIf (tB1 (xBin eqD (xVar 3) (xC (.str ("same" : Str))))) (sRet (xTup (aCons (rOf (xTup (aCons (rOf (xC (.str ("like" : Str)))) (aCons (rVar 5) (aCons (rVar 6) aNil))))) (aCons (rOf (xTup (aCons (rOf (xC (.str ("unlike" : Str)))) (aCons (rVar 5) (aCons (rVar 6) aNil))))) aNil)))) sNext) (sSeq (sIf (tB1 (xBin eqD (xVar 3) (xC (.str ("member" : Str))))) (sRet (xTup (aCons (rOf (xTup (aCons (rOf (xC (.str ("in" : Str)))) (aCons (rVar 5) (aCons (rVar 6) aNil))))) (aCons (rOf (xTup (aCons (rOf (xC (.str ("out" : Str)))) (aCons (rVar 5) (aCons (rVar 6) aNil))))) aNil)))) sNext) (sRet (xTup (aCons (rOf (xTup (aCons (rOf (xC (.str ("like" : Str)))) (aCons (rVar 5) (aCons (rVar 6) aNil))))) (aCons (rOf (xTup (aCons (rOf (xC (.str ("ahead" : Str)))) (aCons (rVar 5) (aCons (rVar 6) aNil))))) (aCons (rOf (xTup (aCons (rOf (xC (.str ("ahead" : Str)))) (aCons (rVar 6) (aCons (rVar 5) aNil))))) aNil)))))))))))))
theorem pure_answers : ∀ ds k, ds.length = 3 → T_answers ds k → t_answers { nx := fun _ => k .non, rt := k } (startP 8 ds) := by
  rintro ds k hl ⟨q, b, f, rfl, hk⟩
  have sm2 : Sm 2 := by unfold Sm; omega
  have sm3 : Sm 3 := by unfold Sm; omega
  cases q with
  | same x y =>
    simp [t_answers, startP, sm2, sm3]
    exact hk
  | size n =>
    simp [t_answers, startP, sm2, sm3]
    exact hk
def T_is_shared_question : FT := fun ds k => ∃ q : Que, ds = [queD q] ∧ k (.bl true)
def t_is_shared_question : TXS := (sRet (xIn (xIx (rVar 0) (xC (.int 0))) (rOf (xTup (aCons (rOf (xC (.str ("same" : Str)))) (aCons (rOf (xC (.str ("size" : Str)))) aNil)))) (inD false)))
theorem pure_is_shared_question : ∀ ds k, ds.length = 1 → T_is_shared_question ds k → t_is_shared_question { nx := fun _ => k .non, rt := k } (startP 1 ds) := by
  rintro ds k hl ⟨q, rfl, hk⟩
  have sm2 : Sm 2 := by unfold Sm; omega
  cases q with
  | same x y => simp [t_is_shared_question, startP, sm2]; exact hk
  | size n => simp [t_is_shared_question, startP, sm2]; exact hk
end K96
end

section
set_option Elab.async false
set_option linter.all false
set_option maxRecDepth 100000
set_option maxHeartbeats 2000000
namespace K96
open PySem PySem.Spec PyProof.Rows L2 PL
/-- the arrangements that a face lets -/
def lets (f : Face) : List (List Int) := ((arrs f.1.length).zip f.2).filterMap fun p => if p.2 = ([], 0) then none else some p.1
def T_let_by : FT := fun ds k => ∃ f : Face, ds = [faceD f] ∧ f.1.length ≤ 4 ∧ k (.lst ((lets f).map arrD))
def t_let_by : TXS := (sSeq (sSet 1 (xFn 1 T_all_arrangements (aCons (rOf (xCall lenD (aCons (rOf (xIx (rVar 0) (xC (.int 0)))) aNil))) aNil))) (sRet (xOfF (fLc (jZip (xVar 1) (xIx (rVar 0) (xC (.int 1)))) (.tup [2, 3]) (tB1 (xBin neD (xVar 3) (xTup (aCons (rOf (xTup aNil)) (aCons (rOf (xC (.int 0))) aNil))))) (xVar 2) [2, 3]))))
theorem pure_let_by : ∀ ds k, ds.length = 1 → T_let_by ds k → t_let_by { nx := fun _ => k .non, rt := k } (startP 4 ds) := by
  rintro ds k hl ⟨f, rfl, h, hk⟩
  have sm2 : Sm 2 := by unfold Sm; omega
  have sm0 : Sm 0 := by unfold Sm; omega
  have la := arrs_len f.1.length h
  simp [t_let_by, startP]
  refine ⟨f.1.length, rfl, h, ?_⟩
  simp
  rw [zipD_enc arrD rowD]
  refine compP_fm (fun p : List Int × Row => D.tup [arrD p.1, rowD p.2]) (fun p => if p.2 = ([], 0) then none else some (arrD p.1)) _ _ (by rw [List.length_zip]; simp; omega) (fun p hp C hC => ?_) ?_
  · by_cases c : p.2 = ([], 0)
    · rw [if_pos c] at hC
      simp [sm2, sm0, c]
      exact hC
    · rw [if_neg c] at hC
      have c2 : ¬ (p.2.1 = [] ∧ p.2.2 = 0) := fun q => c (Prod.ext q.1 q.2)
      simp [sm2, sm0, c2]
      exact hC
  · have e : (((arrs f.1.length).zip f.2).filterMap fun p => if p.2 = ([], 0) then none else some (arrD p.1)) = (lets f).map arrD := by
      unfold lets
      rw [List.map_filterMap]
      congr 1
      funext p
      by_cases c : p.2 = ([], 0) <;> simp [c]
    rw [e]
    simpa using hk
theorem lets_sub {f : Face} {a : List Int} (h : a ∈ lets f) : a ∈ arrs f.1.length := by
  unfold lets at h
  obtain ⟨p, hp, e⟩ := List.mem_filterMap.mp h
  split at e
  · cases e
  · cases e
    exact (List.of_mem_zip hp).1
theorem arrs_each : ∀ n ≤ 4, ∀ a ∈ arrs n, a.length = n := by decide +kernel
def step (o : Option (List Int)) (a : List Int) : Option (List Int) := match o with
  | none => some a
  | some b => some (numb (b.zip a))
def told (f : Face) (kn : List Int) : Option (List Int) := ((lets f).filter fun a => refB kn a).foldl step none
@[reducible] def optD : Option (List Int) → D
  | none => .non
  | some a => arrD a
theorem numGo_len : ∀ (s l : List (Int × Int)), (numGo s l).length = l.length
  | _, [] => rfl
  | s, x :: l => by rw [numGo]; simp [numGo_len]
theorem numb_len (l : List (Int × Int)) : (numb l).length = l.length := numGo_len [] l
def T_told_by : FT := fun ds k => ∃ (f : Face) (kn : List Int), ds = [faceD f, arrD kn] ∧ f.1.length ≤ 4 ∧ kn.length = f.1.length ∧ k (optD (told f kn))
def t_told_by : TXS := (sSeq (sSet 2 (xC .non)) (sSeq (sFor (iX (xFn 1 T_let_by (aCons (rVar 0) aNil))) (gN 3) (sIf (tB1 (xFn 2 T_refines (aCons (rVar 1) (aCons (rVar 3) aNil)))) (sIf (tB1 (xBin isND (xVar 2) (xC .non))) (sMove 2 3) (sSet 2 (xFn 2 T_finest_below (aCons (rVar 2) (aCons (rVar 3) aNil))))) sNext)) (sRetV 2)))
theorem pure_told_by : ∀ ds k, ds.length = 2 → T_told_by ds k → t_told_by { nx := fun _ => k .non, rt := k } (startP 4 ds) := by
  rintro ds k hl ⟨f, kn, rfl, h, hkn, hk⟩
  simp [t_told_by, startP]
  refine ⟨f, rfl, h, ?_⟩
  simp
  have hall : ∀ a ∈ lets f, a.length = f.1.length := fun a ha => arrs_each _ h a (lets_sub ha)
  refine loopP_enc arrD (fun xs ρ => (∀ a ∈ xs, a.length = f.1.length) ∧ ∃ (o : Option (List Int)) (y : Option PV), (∀ b, o = some b → b.length = f.1.length) ∧ k (optD ((xs.filter fun a => refB kn a).foldl step o)) ∧ ρ = [some (.d (faceD f)), some (.d (arrD kn)), some (.d (optD o)), y]) (fun ρ q => ?_) (fun a xs ρ C hC q => ?_) _ _ ⟨hall, none, _, (fun b e => by cases e), hk, rfl⟩
  · obtain ⟨_, o, y, _, hk, rfl⟩ := q
    simpa using hk
  · obtain ⟨hl, o, y, ho, hk, rfl⟩ := q
    have ha := hl a (List.mem_cons_self ..)
    have rest := fun z hz => hl z (List.mem_cons_of_mem a hz)
    simp
    refine ⟨kn, a, rfl, by omega, by omega, ?_⟩
    simp only [s_isB]
    by_cases c : refB kn a = true
    · rw [List.filter_cons_of_pos (by exact c), List.foldl_cons] at hk
      simp only [c, if_true]
      cases o with
      | none =>
        have h2 := hC [some (.d (faceD f)), some (.d (arrD kn)), some (.d (arrD a)), some (.d (arrD a))] ⟨rest, some a, _, fun b e => by cases e; exact ha, hk, rfl⟩
        simp
        exact h2
      | some b =>
        have hb := ho b rfl
        have h2 := hC [some (.d (faceD f)), some (.d (arrD kn)), some (.d (arrD (numb (b.zip a)))), some (.d (arrD a))] ⟨rest, some (numb (b.zip a)), _, fun b e => by cases e; rw [numb_len, List.length_zip]; omega, hk, rfl⟩
        simp
        refine ⟨b, a, rfl, by omega, by omega, ?_⟩
        simpa using h2
    · rw [List.filter_cons_of_neg (by exact c)] at hk
      have h2 := hC [some (.d (faceD f)), some (.d (arrD kn)), some (.d (optD o)), some (.d (arrD a))] ⟨rest, o, _, ho, hk, rfl⟩
      simp only [c]
      simpa using h2
theorem told_len {f : Face} {kn b : List Int} (h : f.1.length ≤ 4) (e : told f kn = some b) : b.length = f.1.length := by
  unfold told at e
  have hall : ∀ a ∈ ((lets f).filter fun a => refB kn a), a.length = f.1.length := fun a ha => arrs_each _ h a (lets_sub (List.mem_filter.mp ha).1)
  revert e hall
  generalize ((lets f).filter fun a => refB kn a) = l
  have go : ∀ (l : List (List Int)) (o : Option (List Int)), (∀ b, o = some b → b.length = f.1.length) → (∀ a ∈ l, a.length = f.1.length) → ∀ b, l.foldl step o = some b → b.length = f.1.length := by
    intro l
    induction l with
    | nil => intro o ho _ b e; exact ho b e
    | cons a l ih =>
      intro o ho hl b e
      have ha := hl a (List.mem_cons_self ..)
      refine ih (step o a) (fun c ec => ?_) (fun z hz => hl z (List.mem_cons_of_mem _ hz)) b e
      cases o with
      | none => cases ec; exact ha
      | some d => cases ec; rw [numb_len, List.length_zip, ho d rfl]; omega
  intro e hall
  exact go l none (fun b e => by cases e) hall b e
/-- right faces over the same names -/
structure FsOk (fs : List Face) (ns : List Str) : Prop where
  ne : fs ≠ []
  few : fs.length ≤ 10
  n1 : 1 ≤ ns.length
  n3 : ns.length ≤ 3
  ok : ∀ f ∈ fs, FaceOk f ∧ f.1 = ns
theorem FsOk.at0 {fs : List Face} {ns : List Str} (h : FsOk fs ns) : ∃ f r, fs = f :: r ∧ f.1 = ns := by
  cases fs with
  | nil => exact absurd rfl h.ne
  | cons f r => exact ⟨f, r, rfl, (h.ok f (List.mem_cons_self ..)).2⟩
abbrev Stp := Nat × List Int
abbrev stpD (p : Stp) : D := .tup [.int p.1, arrD p.2]
/-- the exchange: the place that denies, if any; the steps -/
def exGo (fs : List Face) : Nat → List Int → List Stp → Nat → Nat → Option (Option Nat × List Stp)
  | 0, _, _, _, _ => none
  | n + 1, kn, st, q, p => if q < fs.length then (match told (fs.getD p ([], [])) kn with
    | none => some (some p, st)
    | some t => if t = kn then exGo fs n kn st (q + 1) ((p + 1) % fs.length) else exGo fs n t (st ++ [(p, t)]) 0 ((p + 1) % fs.length)) else some (none, st)
abbrev exD (r : Option Nat × List Stp) : D := .tup [.str (if r.1.isSome then "no" else "yes"), .tup (r.2.map stpD)]
def T_passed_on : FT := fun ds k => ∃ (fs : List Face) (ns : List Str) (r : Option Nat × List Stp), ds = [facesD fs] ∧ FsOk fs ns ∧ exGo fs 1000 (iota ns.length) [] 0 0 = some r ∧ k (exD r)
def t_passed_on : TXS := (sSeq (sSet 1 (xCall tupleD (aCons (rOf (xOfF (fRng1 (xCall lenD (aCons (rOf (xIx (rOf (xIx (rVar 0) (xC (.int 0)))) (xC (.int 0)))) aNil))))) aNil))) (sSeq (sSetF 2 (fLst aNil)) (sSeq (sSet 3 (xC (.int 0))) (sSeq (sSet 4 (xC (.int 0))) (sSeq (sWhile (tB1 (xBin ltD (xVar 3) (xCall lenD (aCons (rVar 0) aNil)))) (sSeq (sSet 5 (xFn 2 T_told_by (aCons (rOf (xIx (rVar 0) (xVar 4))) (aCons (rVar 1) aNil)))) (sSeq (sIf (tB1 (xBin isND (xVar 5) (xC .non))) (sRet (xTup (aCons (rOf (xC (.str ("no" : Str)))) (aCons (rOf (xCall tupleD (aCons (rVar 2) aNil))) aNil)))) sNext) (sSeq (sAug 3 (· + ·) (xC (.int 1))) (sSeq (sIf (tB1 (xBin neD (xVar 5) (xVar 1))) (sSeq (sMove 1 5) (sSeq (sApp 2 (xTup (aCons (rVar 4) (aCons (rVar 1) aNil)))) (sSet 3 (xC (.int 0))))) sNext) (sSet 4 (xBin modD (xBin addD (xVar 4) (xC (.int 1))) (xCall lenD (aCons (rVar 0) aNil))))))))) (sRet (xTup (aCons (rOf (xC (.str ("yes" : Str)))) (aCons (rOf (xCall tupleD (aCons (rVar 2) aNil))) aNil)))))))))
abbrev PASS_C : TXT := (tB1 (xBin ltD (xVar 3) (xCall lenD (aCons (rVar 0) aNil))))
abbrev PASS_B : TXS := (sSeq (sSet 5 (xFn 2 T_told_by (aCons (rOf (xIx (rVar 0) (xVar 4))) (aCons (rVar 1) aNil)))) (sSeq (sIf (tB1 (xBin isND (xVar 5) (xC .non))) (sRet (xTup (aCons (rOf (xC (.str ("no" : Str)))) (aCons (rOf (xCall tupleD (aCons (rVar 2) aNil))) aNil)))) sNext) (sSeq (sAug 3 (· + ·) (xC (.int 1))) (sSeq (sIf (tB1 (xBin neD (xVar 5) (xVar 1))) (sSeq (sMove 1 5) (sSeq (sApp 2 (xTup (aCons (rVar 4) (aCons (rVar 1) aNil)))) (sSet 3 (xC (.int 0))))) sNext) (sSet 4 (xBin modD (xBin addD (xVar 4) (xC (.int 1))) (xCall lenD (aCons (rVar 0) aNil))))))))
theorem pass_loop {fs : List Face} {ns : List Str} (h : FsOk fs ns) {k : D → Prop} : ∀ (n : Nat) (kn : List Int) (st : List Stp) (q p : Nat) (y : Option PV) (r : Option Nat × List Stp), kn.length = ns.length → p < fs.length → st.length + n ≤ 2000 → exGo fs n kn st q p = some r → k (exD r) →
    whileP PASS_C PASS_B { nx := sRet (xTup (aCons (rOf (xC (.str ("yes" : Str)))) (aCons (rOf (xCall tupleD (aCons (rVar 2) aNil))) aNil))) { nx := fun _ => k .non, rt := k }, rt := k } n [some (.d (facesD fs)), some (.d (arrD kn)), some (.own (st.map stpD)), some (.d (.int q)), some (.d (.int p)), y] := by
  have sm2 : Sm 2 := by unfold Sm; omega
  have n3 := h.n3
  intro n
  induction n with
  | zero => intro kn st q p y r _ _ _ e; cases e
  | succ n ih =>
    intro kn st q p y r hkn hp hst e hk
    rw [exGo] at e
    rw [whileP]
    have pl : fs[p]? = some fs[p] := List.getElem?_eq_getElem hp
    have fok := h.ok fs[p] (List.getElem_mem hp)
    have eg : fs.getD p ([], []) = fs[p] := by rw [List.getD_eq_getElem?_getD, pl]; rfl
    by_cases c : q < fs.length
    · rw [if_pos c] at e
      simp [c, hp]
      refine ⟨fs[p], kn, rfl, by rw [fok.2]; omega, by rw [fok.2]; omega, ?_⟩
      rw [eg] at e
      have nz : ((fs.length : Nat) : Int) ≠ 0 := by omega
      have nz2 : fs ≠ [] := h.ne
      have md : ((p : Int) + 1).fmod (fs.length : Int) = (((p + 1) % fs.length : Nat) : Int) := by
        rw [Int.fmod_eq_emod_of_nonneg _ (by omega)]; push_cast; rfl
      have lt : (p + 1) % fs.length < fs.length := Nat.mod_lt _ (by omega)
      cases ht : told fs[p] kn with
      | none =>
        rw [ht] at e
        cases e
        simp [sm2]
        exact hk
      | some t =>
        rw [ht] at e
        have tl := told_len (by rw [fok.2]; omega) ht
        by_cases ct : t = kn
        · subst ct
          dsimp only at e
          rw [if_pos rfl] at e
          have g := ih t st (q + 1) ((p + 1) % fs.length) (some (.d (arrD t))) r hkn lt (by omega) e hk
          simp [md, nz2]
          simpa using g
        · dsimp only at e
          rw [if_neg ct] at e
          have g := ih t (st ++ [(p, t)]) 0 ((p + 1) % fs.length) (some (.d (arrD t))) r (by rw [tl, fok.2]) lt (by simp; omega) e hk
          have sm3 : Sm (st.length + 1) := by unfold Sm; omega
          simp [md, nz2, ct, sm2, sm3]
          simpa using g
    · rw [if_neg c] at e
      cases e
      simp [c, sm2]
      exact hk
theorem pure_passed_on : ∀ ds k, ds.length = 1 → T_passed_on ds k → t_passed_on { nx := fun _ => k .non, rt := k } (startP 6 ds) := by
  rintro ds k hl ⟨fs, ns, r, rfl, h, e, hk⟩
  obtain ⟨f, rest, ef, en⟩ := h.at0
  have n3 := h.n3
  have s2 : Sm2 0 (ns.length : Int) := ⟨by omega, by omega, by omega, by omega⟩
  have sm0 : Sm 0 := by unfold Sm; omega
  have hp : 0 < fs.length := by rw [ef]; simp
  have g0 : ∀ k : D → Prop, ixD (facesD fs) (.int 0) k = k (faceD f) := fun k => by rw [ef]; simp
  have il : (iota ns.length).length = ns.length := by simp [iota]
  have lp := pass_loop h (k := k) 1000 (iota ns.length) [] 0 0 none r il hp (by simp) e hk
  simp [t_passed_on, startP, g0, en, s2, sm0]
  rw [rng_iota]
  exact ⟨1000, by simpa using lp⟩
def T_are_faces : FT := fun ds k => ∃ (fs : List Face) (ns : List Str) (m : Int), ds = [facesD fs, .int m] ∧ FsOk fs ns ∧ (ns.length : Int) ≤ m ∧ k (.bl true)
def t_are_faces : TXS := (sSeq (sIf (tOr1 (tNot1 (tB1 (xIsi isTupD (rVar 0)))) (tNot1 (tTr (rVar 0)))) (sRet (xC (.bl false))) sNext) (sSeq (sFor (iV 0) (gN 2) (sIf (tOr1 (tNot1 (tB1 (xFn 1 T_is_face (aCons (rVar 2) aNil)))) (tB1 (xBin neD (xIx (rVar 2) (xC (.int 0))) (xIx (rOf (xIx (rVar 0) (xC (.int 0)))) (xC (.int 0)))))) (sRet (xC (.bl false))) sNext)) (sRet (xBin leD (xCall lenD (aCons (rOf (xIx (rOf (xIx (rVar 0) (xC (.int 0)))) (xC (.int 0)))) aNil)) (xVar 1)))))
theorem pure_are_faces : ∀ ds k, ds.length = 2 → T_are_faces ds k → t_are_faces { nx := fun _ => k .non, rt := k } (startP 3 ds) := by
  rintro ds k hl ⟨fs, ns, m, rfl, h, hm, hk⟩
  obtain ⟨f, rest, ef, en⟩ := h.at0
  have g0 : atI (fs.map faceD) 0 = some (faceD f) := by rw [ef, List.map_cons, atI_zero]
  have ne : fs ≠ [] := h.ne
  simp [t_are_faces, startP, isDicD, isTupD, ne]
  refine loopP_enc faceD (fun xs ρ => (∀ g ∈ xs, FaceOk g ∧ g.1 = ns) ∧ ∃ y, ρ = [some (.d (facesD fs)), some (.d (.int m)), y]) (fun ρ q => ?_) (fun g xs ρ C hC q => ?_) _ _ ⟨h.ok, _, rfl⟩
  · obtain ⟨_, y, rfl⟩ := q
    simp [g0, en, hm]
    exact hk
  · obtain ⟨ha, y, rfl⟩ := q
    obtain ⟨g1, g2⟩ := ha g (List.mem_cons_self ..)
    have h2 := hC [some (.d (facesD fs)), some (.d (.int m)), some (.d (faceD g))] ⟨fun z hz => ha z (List.mem_cons_of_mem _ hz), _, rfl⟩
    have f1 := (h.ok f (by rw [ef]; exact List.mem_cons_self ..)).1
    have okn : ∀ x ∈ ns, PyData.strOk x = true := by rw [← en]; exact f1.ok
    simp
    refine ⟨g, rfl, g1, ?_⟩
    simp [g0, en, g2]
    exact ⟨okn, h2⟩
def T_exchange : FT := fun ds k => T_passed_on ds k
def t_exchange : TXS := (sSeq (sIf (tNot1 (tB1 (xFn 2 T_are_faces (aCons (rVar 0) (aCons (rOf (xC (.int 4))) aNil))))) (fun _ _ => False) sNext) (sRet (xFn 1 T_passed_on (aCons (rVar 0) aNil))))
theorem pure_exchange : ∀ ds k, ds.length = 1 → T_exchange ds k → t_exchange { nx := fun _ => k .non, rt := k } (startP 1 ds) := by
  rintro ds k hl ⟨fs, ns, r, rfl, h, e, hk⟩
  have n3 := h.n3
  simp [t_exchange, startP]
  refine ⟨fs, ns, 4, rfl, h, by omega, ?_⟩
  simp
  exact ⟨fs, ns, r, rfl, h, e, hk⟩
end K96
end

section
set_option Elab.async false
set_option linter.all false
set_option maxRecDepth 100000
set_option maxHeartbeats 2000000
namespace K96
open PySem PySem.Spec PyProof.Rows L2 PL
def bstep (b : Int × Int) : Fact → Int × Int
  | .atleast n => (max b.1 n, b.2)
  | .atmost n => (b.1, if b.2 = 0 ∨ n < b.2 then n else b.2)
  | _ => b
def bnd (fs : List Fact) : Int × Int := fs.foldl bstep (1, 0)
def T_bounds_of : FT := fun ds k => ∃ fs : List Fact, ds = [.tup (fs.map factD)] ∧ k (.tup [.int (bnd fs).1, .int (bnd fs).2])
def t_bounds_of : TXS := (sSeq (sSet 1 (xC (.int 1))) (sSeq (sSet 2 (xC (.int 0))) (sSeq (sFor (iV 0) (gN 3) (sSeq (sIf (tB1 (xBin eqD (xIx (rVar 3) (xC (.int 0))) (xC (.str ("atleast" : Str))))) (sSet 1 (xCall maxD2 (aCons (rVar 1) (aCons (rOf (xIx (rVar 3) (xC (.int 1)))) aNil)))) sNext) (sIf (tAnd1 (tB1 (xBin eqD (xIx (rVar 3) (xC (.int 0))) (xC (.str ("atmost" : Str))))) (tOr1 (tB1 (xBin eqD (xVar 2) (xC (.int 0)))) (tB1 (xBin ltD (xIx (rVar 3) (xC (.int 1))) (xVar 2))))) (sSet 2 (xIx (rVar 3) (xC (.int 1)))) sNext))) (sRet (xTup (aCons (rVar 1) (aCons (rVar 2) aNil)))))))
theorem pure_bounds_of : ∀ ds k, ds.length = 1 → T_bounds_of ds k → t_bounds_of { nx := fun _ => k .non, rt := k } (startP 4 ds) := by
  rintro ds k hl ⟨fs, rfl, hk⟩
  have sm2 : Sm 2 := by unfold Sm; omega
  simp [t_bounds_of, startP]
  refine loopP_enc factD (fun xs ρ => ∃ (lo hi : Int) (y : Option PV), k (.tup [.int (xs.foldl bstep (lo, hi)).1, .int (xs.foldl bstep (lo, hi)).2]) ∧ ρ = [some (.d (.tup (fs.map factD))), some (.d (.int lo)), some (.d (.int hi)), y]) (fun ρ q => ?_) (fun f xs ρ C hC q => ?_) _ _ ⟨1, 0, _, hk, rfl⟩
  · obtain ⟨lo, hi, y, h, rfl⟩ := q
    simpa [sm2] using h
  · obtain ⟨lo, hi, y, h, rfl⟩ := q
    rw [List.foldl_cons] at h
    cases f with
    | like x y =>
      have g := hC [some (.d (.tup (fs.map factD))), some (.d (.int lo)), some (.d (.int hi)), some (.d (factD (.like x y)))] ⟨lo, hi, _, h, rfl⟩
      simp
      exact g
    | unlike x y =>
      have g := hC [some (.d (.tup (fs.map factD))), some (.d (.int lo)), some (.d (.int hi)), some (.d (factD (.unlike x y)))] ⟨lo, hi, _, h, rfl⟩
      simp
      exact g
    | atleast n =>
      have g := hC [some (.d (.tup (fs.map factD))), some (.d (.int (max lo n))), some (.d (.int hi)), some (.d (factD (.atleast n)))] ⟨max lo n, hi, _, h, rfl⟩
      simp
      exact g
    | atmost n =>
      have g := hC [some (.d (.tup (fs.map factD))), some (.d (.int lo)), some (.d (.int (if hi = 0 ∨ n < hi then n else hi))), some (.d (factD (.atmost n)))] ⟨lo, _, _, h, rfl⟩
      simp
      by_cases c1 : hi = 0
      · simp [c1] at g ⊢; exact g
      · by_cases c2 : n < hi <;> simp [c1, c2] at g ⊢ <;> exact g
def betw (lo hi : Int) : Row := if 0 < hi ∧ hi < lo then ([], 0) else fromTo lo hi
def T_sizes_between : FT := fun ds k => ∃ lo hi : Int, ds = [.int lo, .int hi] ∧ -1000 ≤ lo ∧ lo ≤ 1000 ∧ hi ≤ 1000 ∧ -1000 ≤ hi ∧ hi - lo < 60 ∧ k (rowD (betw lo hi))
def t_sizes_between : TXS := (sSeq (sIf (tB1 (xChain ltD ltD (xC (.int 0)) (xVar 1) (xVar 0))) (sRet (xTup (aCons (rOf (xTup aNil)) (aCons (rOf (xC (.int 0))) aNil)))) sNext) (sRet (xFn 2 T_from_to (aCons (rVar 0) (aCons (rVar 1) aNil)))))
theorem pure_sizes_between : ∀ ds k, ds.length = 2 → T_sizes_between ds k → t_sizes_between { nx := fun _ => k .non, rt := k } (startP 2 ds) := by
  rintro ds k hl ⟨lo, hi, rfl, h1, h2, h3, h4, h5, hk⟩
  have sm2 : Sm 2 := by unfold Sm; omega
  have sm0 : Sm 0 := by unfold Sm; omega
  unfold betw at hk
  simp [t_sizes_between, startP]
  by_cases c1 : 0 < hi
  · by_cases c2 : hi < lo
    · rw [if_pos ⟨c1, c2⟩] at hk
      simp [c1, c2, sm2, sm0]
      exact hk
    · rw [if_neg (fun q => c2 q.2)] at hk
      simp [c1, c2]
      exact ⟨lo, hi, rfl, h1, h2, h3, h4, h5, hk⟩
  · rw [if_neg (fun q => c1 q.1)] at hk
    simp [c1]
    exact ⟨lo, hi, rfl, h1, h2, h3, h4, h5, hk⟩
/-- the number of a name -/
def valOf (ns : List Str) (a : List Int) (x : Str) : Int := a.getD (ns.idxOf x) 0
def fitF (ns : List Str) (a : List Int) : Fact → Bool
  | .like x y => if x ∈ ns ∧ y ∈ ns then decide (valOf ns a x = valOf ns a y) else true
  | .unlike x y => if x ∈ ns ∧ y ∈ ns then !decide (valOf ns a x = valOf ns a y) else true
  | _ => true
def fitsB (ns : List Str) (a : List Int) (fs : List Fact) : Bool := fs.all (fitF ns a)
theorem look_val {x : Str} : ∀ {ns : List Str} {a : List Int}, ns.length = a.length → x ∈ ns → sLook ns (a.map D.int) x = some (.int (valOf ns a x))
  | [], _, _, h => by cases h
  | n :: ns, [], h, _ => by simp at h
  | n :: ns, i :: a, h, hx => by
    by_cases e : n = x
    · subst e
      simp [sLook, valOf]
    · have hx2 : x ∈ ns := by
        rcases List.mem_cons.mp hx with q | q
        · exact absurd q.symm e
        · exact q
      have ih := look_val (ns := ns) (a := a) (by simpa using h) hx2
      have e2 : (n == x) = false := by simpa using e
      have e3 : List.idxOf x (n :: ns) = List.idxOf x ns + 1 := by rw [List.idxOf_cons, e2]; rfl
      rw [List.map_cons]
      unfold sLook
      rw [if_neg e, ih]
      unfold valOf
      rw [e3]
      simp
def T_fits : FT := fun ds k => ∃ (ns : List Str) (a : List Int) (fs : List Fact), ds = [.tup (ns.map D.str), arrD a, .tup (fs.map factD)] ∧ ns.Nodup ∧ ns.length = a.length ∧ ns.length ≤ 1000 ∧ k (.bl (fitsB ns a fs))
def t_fits : TXS := (sSeq (sSetDc 3 (jZip (xVar 0) (xVar 1)) (.tup [5, 6]) (xVar 5) (xVar 6) [5, 6]) (sSeq (sFor (iV 2) (gN 4) (sIf (tAnd1 (tB1 (xIn (xIx (rVar 4) (xC (.int 0))) (rOf (xTup (aCons (rOf (xC (.str ("like" : Str)))) (aCons (rOf (xC (.str ("unlike" : Str)))) aNil)))) (inD false))) (tAnd1 (tB1 (xIn (xIx (rVar 4) (xC (.int 1))) (rVar 3) (inD false))) (tB1 (xIn (xIx (rVar 4) (xC (.int 2))) (rVar 3) (inD false))))) (sIf (tB1 (xBin neB (xBin eqD (xIx (rVar 3) (xIx (rVar 4) (xC (.int 1)))) (xIx (rVar 3) (xIx (rVar 4) (xC (.int 2))))) (xBin eqD (xIx (rVar 4) (xC (.int 0))) (xC (.str ("like" : Str)))))) (sRet (xC (.bl false))) sNext) sNext)) (sRet (xC (.bl true)))))
theorem compDP_zip {ρ1 ρ2 ρ3 ρ4 ρ5 : Option PV} {k : List Str → List D → Prop} : ∀ (ns : List Str) (a : List Int) (ks : List Str) (vs : List D), (ks ++ ns).Nodup → ns.length = a.length → ks.length + ns.length ≤ 1000 → k (ks ++ ns) (vs ++ a.map D.int) →
    compDP (.tup [5, 6]) (xVar 5) (xVar 6) [ρ1, ρ2, ρ3, ρ4, ρ5, none, none] k ((ns.zip a).map fun p => D.tup [.str p.1, .int p.2]) ks vs
  | [], [], ks, vs, _, _, _, hk => by simpa [compDP] using hk
  | [], _ :: _, _, _, _, h, _, _ => by simp at h
  | _ :: _, [], _, _, _, h, _, _ => by simp at h
  | n :: ns, i :: a, ks, vs, nd, hl, hb, hk => by
    have nk : n ∉ ks := by
      intro q
      have := (List.nodup_append.mp nd).2.2 n q n (List.mem_cons_self ..)
      exact this rfl
    have sm : Sm (ks.length + 1) := by unfold Sm; simp at hb; omega
    have g := compDP_zip (ρ1 := ρ1) (ρ2 := ρ2) (ρ3 := ρ3) (ρ4 := ρ4) (ρ5 := ρ5) (k := k) ns a (ks ++ [n]) (vs ++ [.int i]) (by simpa using nd) (by simpa using hl) (by simp at hb ⊢; omega) (by simpa using hk)
    rw [List.zip_cons_cons, List.map_cons, compDP]
    simp [nk, sm]
    simpa using g
theorem pure_fits : ∀ ds k, ds.length = 3 → T_fits ds k → t_fits { nx := fun _ => k .non, rt := k } (startP 7 ds) := by
  rintro ds k hl ⟨ns, a, fs, rfl, nd, h1, h2, hk⟩
  have sm2 : Sm 2 := by unfold Sm; omega
  simp [t_fits, startP]
  rw [zipD_enc D.str D.int]
  refine compDP_zip ns a [] [] (by simpa using nd) h1 (by simpa using h2) ?_
  simp
  refine loopP_enc factD (fun xs ρ => k (.bl (xs.all (fitF ns a))) ∧ ∃ y, ρ = [some (.d (.tup (ns.map D.str))), some (.d (arrD a)), some (.d (.tup (fs.map factD))), some (.d (.dik ns (a.map D.int))), y, none, none]) (fun ρ q => ?_) (fun f xs ρ C hC q => ?_) _ _ ⟨hk, _, rfl⟩
  · obtain ⟨h, y, rfl⟩ := q
    simpa using h
  · obtain ⟨h, y, rfl⟩ := q
    rw [List.all_cons] at h
    have g := fun w => hC [some (.d (.tup (ns.map D.str))), some (.d (arrD a)), some (.d (.tup (fs.map factD))), some (.d (.dik ns (a.map D.int))), some (.d (factD f)), none, none] ⟨w, _, rfl⟩
    cases f with
    | like x y =>
      by_cases c1 : x ∈ ns <;> by_cases c2 : y ∈ ns
      · by_cases c3 : valOf ns a x = valOf ns a y <;> simp [fitF, c1, c2, c3] at h g <;> simp [sm2, c1, c2, look_val h1 c1, look_val h1 c2, c3] <;> first | exact g h | exact h
      · simp [fitF, c1, c2] at h g; simp [sm2, c1, c2]; exact g h
      · simp [fitF, c1, c2] at h g; simp [sm2, c1, c2]; exact g h
      · simp [fitF, c1, c2] at h g; simp [sm2, c1, c2]; exact g h
    | unlike x y =>
      by_cases c1 : x ∈ ns <;> by_cases c2 : y ∈ ns
      · by_cases c3 : valOf ns a x = valOf ns a y <;> simp [fitF, c1, c2, c3] at h g <;> simp [sm2, c1, c2, look_val h1 c1, look_val h1 c2, c3] <;> first | exact g h | exact h
      · simp [fitF, c1, c2] at h g; simp [sm2, c1, c2]; exact g h
      · simp [fitF, c1, c2] at h g; simp [sm2, c1, c2]; exact g h
      · simp [fitF, c1, c2] at h g; simp [sm2, c1, c2]; exact g h
    | atmost n => simp [fitF] at h g; simp [sm2]; exact g h
    | atleast n => simp [fitF] at h g; simp [sm2]; exact g h
def keepF (ns : List Str) (fs : List Fact) : Face := (ns, (arrs ns.length).map fun a => if fitsB ns a fs = true then meetR (betw (bnd fs).1 (bnd fs).2) (fullR a) else ([], 0))
def T_face_keeping : FT := fun ds k => ∃ (ns : List Str) (fs : List Fact), ds = [.tup (ns.map D.str), .tup (fs.map factD)] ∧ ns.Nodup ∧ ns.length ≤ 4 ∧ -1000 ≤ (bnd fs).1 ∧ (bnd fs).1 ≤ 1000 ∧ (bnd fs).2 ≤ 1000 ∧ -1000 ≤ (bnd fs).2 ∧ (bnd fs).2 - (bnd fs).1 < 60 ∧ (betw (bnd fs).1 (bnd fs).2).1.length < 64 ∧ k (faceD (keepF ns fs))
def t_face_keeping : TXS := (sSeq (sAsg (xFn 1 T_bounds_of (aCons (rVar 1) aNil)) (gT [2, 3])) (sSeq (sSet 4 (xFn 2 T_sizes_between (aCons (rVar 2) (aCons (rVar 3) aNil)))) (sSeq (sSetF 5 (fLst aNil)) (sSeq (sFor (iX (xFn 1 T_all_arrangements (aCons (rOf (xCall lenD (aCons (rVar 0) aNil))) aNil))) (gN 6) (sIf (tB1 (xFn 3 T_fits (aCons (rVar 0) (aCons (rVar 6) (aCons (rVar 1) aNil))))) (sApp 5 (xFn 2 T_common_sizes (aCons (rVar 4) (aCons (rOf (xFn 1 T_full_row (aCons (rVar 6) aNil))) aNil)))) (sApp 5 (xTup (aCons (rOf (xTup aNil)) (aCons (rOf (xC (.int 0))) aNil)))))) (sRet (xTup (aCons (rVar 0) (aCons (rOf (xCall tupleD (aCons (rVar 5) aNil))) aNil))))))))
theorem pure_face_keeping : ∀ ds k, ds.length = 2 → T_face_keeping ds k → t_face_keeping { nx := fun _ => k .non, rt := k } (startP 7 ds) := by
  rintro ds k hl ⟨ns, fs, rfl, nd, h4, b1, b2, b3, b4, b5, b6, hk⟩
  have sm2 : Sm 2 := by unfold Sm; omega
  have sm0 : Sm 0 := by unfold Sm; omega
  have la := arrs_len ns.length h4
  simp [t_face_keeping, startP]
  refine ⟨fs, rfl, ?_⟩
  simp
  refine ⟨_, _, rfl, b1, b2, b3, b4, b5, ?_⟩
  simp [sm0]
  refine ⟨ns.length, rfl, h4, ?_⟩
  simp
  refine loopP_enc arrD (fun xs ρ => ∃ (done : List (List Int)) (y : Option PV), done ++ xs = arrs ns.length ∧ ρ = [some (.d (.tup (ns.map D.str))), some (.d (.tup (fs.map factD))), some (.d (.int (bnd fs).1)), some (.d (.int (bnd fs).2)), some (.d (rowD (betw (bnd fs).1 (bnd fs).2))), some (.own ((done.map fun a => if fitsB ns a fs = true then meetR (betw (bnd fs).1 (bnd fs).2) (fullR a) else ([], 0)).map rowD)), y]) (fun ρ q => ?_) (fun a xs ρ C hC q => ?_) _ _ ⟨[], _, rfl, rfl⟩
  · obtain ⟨done, y, e, rfl⟩ := q
    rw [List.append_nil] at e
    subst e
    have hk' : k (.tup [.tup (ns.map D.str), .tup ((keepF ns fs).2.map rowD)]) := hk
    unfold keepF at hk'
    simp [sm2]
    simpa using hk'
  · obtain ⟨done, y, e, rfl⟩ := q
    have ha : a ∈ arrs ns.length := by rw [← e]; simp
    have hal := arrs_each _ h4 a ha
    have dl : done.length + 1 ≤ 15 := by
      have := congrArg List.length e
      simp at this
      omega
    have sm : Sm (done.length + 1) := by unfold Sm; omega
    have g := hC [some (.d (.tup (ns.map D.str))), some (.d (.tup (fs.map factD))), some (.d (.int (bnd fs).1)), some (.d (.int (bnd fs).2)), some (.d (rowD (betw (bnd fs).1 (bnd fs).2))), some (.own (((done ++ [a]).map fun a => if fitsB ns a fs = true then meetR (betw (bnd fs).1 (bnd fs).2) (fullR a) else ([], 0)).map rowD)), some (.d (arrD a))] ⟨done ++ [a], _, by simpa using e, rfl⟩
    rw [List.map_append, List.map_append] at g
    simp only [s_gN, s_sIf, s_tB1, s_xFn, s_aCons, s_aNil, s_rVar, s_xVar, List.set_cons_succ, List.set_cons_zero, List.getElem?_cons_zero, List.getElem?_cons_succ, s_xP, s_xD]
    refine ⟨rfl, ns, a, fs, rfl, nd, hal.symm, by omega, fun h => by simp at h, ?_⟩
    simp only [s_isB]
    by_cases c : fitsB ns a fs = true
    · simp only [c, if_true]
      simp [T_full_row]
      simp only [List.map_cons, List.map_nil, c, if_true] at g
      refine ⟨_, fullR a, rfl, by simpa [fullR] using b6, ?_⟩
      simp [sm]
      simp at g
      exact g
    · simp only [c]
      simp only [List.map_cons, List.map_nil, c] at g
      simp [sm2, sm0, sm]
      simp at g
      exact g
end K96
end

section
set_option Elab.async false
set_option linter.all false
set_option maxRecDepth 100000
set_option maxHeartbeats 2000000
namespace K96
open PySem PySem.Spec PyProof.Rows L2 PL
structure Sml (r : Row) : Prop where
  up : r.1.Pairwise (· < ·)
  mem : ∀ s ∈ r.1, 1 ≤ s ∧ s ≤ 20
theorem up_len : ∀ (xs : List Int) (lo hi : Int), xs.Pairwise (· < ·) → (∀ s ∈ xs, lo ≤ s ∧ s ≤ hi) → (xs.length : Int) ≤ max 0 (hi + 1 - lo)
  | [], lo, hi, _, _ => by simp; omega
  | x :: xs, lo, hi, hp, hm => by
    rw [List.pairwise_cons] at hp
    have hx := hm x (List.mem_cons_self ..)
    have ih := up_len xs (x + 1) hi hp.2 fun s hs => ⟨by have := hp.1 s hs; omega, (hm s (List.mem_cons_of_mem _ hs)).2⟩
    rw [List.length_cons]
    push_cast
    omega
theorem Sml.len {r : Row} (h : Sml r) : r.1.length ≤ 20 := by
  have := up_len r.1 1 20 h.up h.mem
  omega
theorem trim_drop : ∀ (rs : List Int) (t : Int), ∃ n, (trimR rs t).1 = (rs.drop n).reverse
  | [], t => ⟨0, rfl⟩
  | y :: ys, t => by
    unfold trimR
    split
    · obtain ⟨n, e⟩ := trim_drop ys (t - 1)
      exact ⟨n + 1, by rw [e]; rfl⟩
    · exact ⟨0, rfl⟩
theorem tidy_sub (ns : List Int) (ray : Int) : List.Sublist (tidy ns ray).1 (srt ns) := by
  unfold tidy
  split
  · obtain ⟨n, e⟩ := trim_drop ((srt ns).filter fun x => decide (x < ray)).reverse ray
    rw [e]
    have h1 : List.Sublist ((((srt ns).filter fun x => decide (x < ray)).reverse.drop n).reverse) ((srt ns).filter fun x => decide (x < ray)) := by
      have := (List.drop_sublist n ((srt ns).filter fun x => decide (x < ray)).reverse).reverse
      rwa [List.reverse_reverse] at this
    exact h1.trans List.filter_sublist
  · exact List.Sublist.refl _
theorem tidy_sml {ns : List Int} {ray : Int} (h : ∀ s ∈ ns, 1 ≤ s ∧ s ≤ 20) : Sml (tidy ns ray) :=
  ⟨(srt_up ns).sublist (tidy_sub ns ray), fun s hs => h s (srt_mem.mp ((tidy_sub ns ray).subset hs))⟩
theorem meetR_sml {a b : Row} (ha : Sml a) (hb : Sml b) : Sml (meetR a b) := tidy_sml fun s hs => by
  rcases List.mem_append.mp hs with q | q
  · exact ha.mem s (List.mem_filter.mp q).1
  · exact hb.mem s (List.mem_filter.mp q).1
theorem nil_sml {i : Int} : Sml ([], i) := ⟨List.Pairwise.nil, fun s hs => by cases hs⟩
theorem RowV.sml {r : Row} (h : RowV r) : Sml r := ⟨h.up, h.mem⟩
def FSml (f : Face) : Prop := ∀ r ∈ f.2, Sml r
theorem zipWith_mem {α β γ : Type} {g : α → β → γ} {z : γ} : ∀ {a : List α} {b : List β}, z ∈ List.zipWith g a b → ∃ x ∈ a, ∃ y ∈ b, z = g x y
  | [], _, h => by simp at h
  | _ :: _, [], h => by simp at h
  | x :: a, y :: b, h => by
    rw [List.zipWith_cons_cons] at h
    rcases List.mem_cons.mp h with q | q
    · exact ⟨x, List.mem_cons_self .., y, List.mem_cons_self .., q⟩
    · obtain ⟨u, hu, v, hv, e⟩ := zipWith_mem q
      exact ⟨u, List.mem_cons_of_mem _ hu, v, List.mem_cons_of_mem _ hv, e⟩
theorem meetF_sml {f g : Face} (hf : FSml f) (hg : FSml g) : FSml (meetF f g) := fun r hr => by
  obtain ⟨x, hx, y, hy, rfl⟩ := zipWith_mem hr
  exact meetR_sml (hf x hx) (hg y hy)
theorem wholeF_sml (ns : List Str) : FSml (wholeF ns) := fun r hr => by
  obtain ⟨a, _, rfl⟩ := List.mem_map.mp hr
  exact meetR_sml nil_sml nil_sml
theorem wholeF_len {ns : List Str} (h : ns.length ≤ 4) : (wholeF ns).2.length ≤ 15 := by
  have := arrs_len _ h
  simpa [wholeF, faceWith] using this
def metF (ns : List Str) (fs : List Face) : Face := fs.foldl meetF (wholeF ns)
theorem faceD_meet {f g : Face} (hf : FSml f) (hg : FSml g) (hl : f.2.length ≤ 1000) {k : D → Prop} (hk : k (faceD (meetF f g))) : T_meet_faces [faceD f, faceD g] k :=
  ⟨f, g, rfl, hl, fun p hp => by
    have h1 := (hf p.1 (List.of_mem_zip hp).1).len
    have h2 := (hg p.2 (List.of_mem_zip hp).2).len
    omega, hk⟩
def T_met_faces : FT := fun ds k => ∃ (ns : List Str) (fs : List Face), ds = [.tup (ns.map D.str), facesD fs] ∧ ns.length ≤ 4 ∧ (∀ f ∈ fs, FSml f) ∧ k (faceD (metF ns fs))
def t_met_faces : TXS := (sSeq (sSet 2 (xFn 1 T_whole_face (aCons (rVar 0) aNil))) (sSeq (sFor (iV 1) (gN 3) (sSet 2 (xFn 2 T_meet_faces (aCons (rVar 2) (aCons (rVar 3) aNil))))) (sRetV 2)))
theorem pure_met_faces : ∀ ds k, ds.length = 2 → T_met_faces ds k → t_met_faces { nx := fun _ => k .non, rt := k } (startP 4 ds) := by
  rintro ds k hl ⟨ns, fs, rfl, h4, hs, hk⟩
  simp [t_met_faces, startP]
  refine ⟨ns, rfl, h4, ?_⟩
  simp only [List.set_cons_succ, List.set_cons_zero, List.getElem?_cons_zero, List.getElem?_cons_succ, s_xP]
  refine loopP_enc faceD (fun xs ρ => (∀ f ∈ xs, FSml f) ∧ ∃ (g : Face) (y : Option PV), FSml g ∧ g.2.length ≤ 15 ∧ k (faceD (xs.foldl meetF g)) ∧ ρ = [some (.d (.tup (ns.map D.str))), some (.d (facesD fs)), some (.d (faceD g)), y]) (fun ρ q => ?_) (fun f xs ρ C hC q => ?_) _ _ ⟨hs, _, _, wholeF_sml ns, wholeF_len h4, hk, rfl⟩
  · obtain ⟨_, g, y, _, _, h, rfl⟩ := q
    simp
    exact h
  · obtain ⟨hx, g, y, hg, gl, h, rfl⟩ := q
    have h2 := hC [some (.d (.tup (ns.map D.str))), some (.d (facesD fs)), some (.d (faceD (meetF g f))), some (.d (faceD f))] ⟨fun z hz => hx z (List.mem_cons_of_mem _ hz), meetF g f, _, meetF_sml hg (hx f (List.mem_cons_self ..)), by simp [meetF]; omega, h, rfl⟩
    simp
    exact faceD_meet hg (hx f (List.mem_cons_self ..)) (by omega) h2
def gmR (m : Int) (r : Row) : Int := max m (max r.2 (maxOf 0 r.1))
def gmF (m : Int) (f : Face) : Int := f.2.foldl gmR m
def gmark (fs : List Face) : Int := min (fs.foldl gmF 1) 99
def T_greatest_mark : FT := fun ds k => ∃ fs : List Face, ds = [facesD fs] ∧ k (.int (gmark fs))
def t_greatest_mark : TXS := (sSeq (sSet 1 (xC (.int 1))) (sSeq (sFor (iV 0) (gN 2) (sFor (iX (xIx (rVar 2) (xC (.int 1)))) (gT [3, 4]) (sSet 1 (xCall maxD3 (aCons (rVar 1) (aCons (rVar 4) (aCons (rOf (xMaxDef (aCons (rVar 3) aNil) (xC (.int 0)))) aNil))))))) (sRet (xCall minD2 (aCons (rVar 1) (aCons (rOf (xC (.int 99))) aNil))))))
theorem pure_greatest_mark : ∀ ds k, ds.length = 1 → T_greatest_mark ds k → t_greatest_mark { nx := fun _ => k .non, rt := k } (startP 5 ds) := by
  rintro ds k hl ⟨fs, rfl, hk⟩
  simp [t_greatest_mark, startP]
  refine loopP_enc faceD (fun xs ρ => ∃ (m : Int) (a b c : Option PV), k (.int (min (xs.foldl gmF m) 99)) ∧ ρ = [some (.d (facesD fs)), some (.d (.int m)), a, b, c]) (fun ρ q => ?_) (fun f xs ρ C hC q => ?_) _ _ ⟨1, _, _, _, hk, rfl⟩
  · obtain ⟨m, a, b, c, h, rfl⟩ := q
    simp
    exact h
  · obtain ⟨m, a, b, c, h, rfl⟩ := q
    simp
    rw [List.foldl_cons] at h
    refine loopP_enc rowD (fun rs ρ => ∃ (m : Int) (b c : Option PV), k (.int (min (xs.foldl gmF (rs.foldl gmR m)) 99)) ∧ ρ = [some (.d (facesD fs)), some (.d (.int m)), some (.d (faceD f)), b, c]) (fun ρ q => ?_) (fun r rs ρ C2 hC2 q => ?_) _ _ ⟨m, _, _, h, rfl⟩
    · obtain ⟨m, b, c, h, rfl⟩ := q
      exact hC _ ⟨m, _, _, _, h, rfl⟩
    · obtain ⟨m, b, c, h, rfl⟩ := q
      have g := hC2 [some (.d (facesD fs)), some (.d (.int (max m (max r.2 (maxOf 0 r.1))))), some (.d (faceD f)), some (.d (.tup (r.1.map D.int))), some (.d (.int r.2))] ⟨_, _, _, h, rfl⟩
      simp
      exact g
abbrev Stt := List (List Int) × Int × Int
abbrev stD (s : Stt) : D := .tup [.tup (s.1.map arrD), .int s.2.1, .int s.2.2]
def T_start_state : FT := fun ds k => ∃ n : Nat, ds = [.int n] ∧ n ≤ 4 ∧ k (stD (arrs n, 1, 0))
def t_start_state : TXS := (sRet (xTup (aCons (rOf (xFn 1 T_all_arrangements (aCons (rVar 0) aNil))) (aCons (rOf (xC (.int 1))) (aCons (rOf (xC (.int 0))) aNil)))))
theorem pure_start_state : ∀ ds k, ds.length = 1 → T_start_state ds k → t_start_state { nx := fun _ => k .non, rt := k } (startP 1 ds) := by
  rintro ds k hl ⟨n, rfl, hn, hk⟩
  have sm3 : Sm 3 := by unfold Sm; omega
  simp [t_start_state, startP]
  refine ⟨n, rfl, hn, ?_⟩
  simp [sm3]
  exact hk
def hasSome (r : Row) (lo hi : Int) : Bool := decide (r.2 ≠ 0 ∧ (hi = 0 ∨ r.2 ≤ hi)) || r.1.any fun s => decide (lo ≤ s ∧ (hi = 0 ∨ s ≤ hi))
def T_has_some : FT := fun ds k => ∃ (r : Row) (lo hi : Int), ds = [rowD r, .int lo, .int hi] ∧ k (.bl (hasSome r lo hi))
def t_has_some : TXS := (sSeq (sAsg (xVar 0) (gT [3, 4])) (sSeq (sIf (tAnd1 (tTr (rVar 4)) (tOr1 (tB1 (xBin eqD (xVar 2) (xC (.int 0)))) (tB1 (xBin leD (xVar 4) (xVar 2))))) (sRet (xC (.bl true))) sNext) (sSeq (sFor (iV 3) (gN 5) (sIf (tAnd1 (tB1 (xBin leD (xVar 1) (xVar 5))) (tOr1 (tB1 (xBin eqD (xVar 2) (xC (.int 0)))) (tB1 (xBin leD (xVar 5) (xVar 2))))) (sRet (xC (.bl true))) sNext)) (sRet (xC (.bl false))))))
theorem pure_has_some : ∀ ds k, ds.length = 3 → T_has_some ds k → t_has_some { nx := fun _ => k .non, rt := k } (startP 6 ds) := by
  rintro ds k hl ⟨r, lo, hi, rfl, hk⟩
  unfold hasSome at hk
  have go : k (.bl (r.1.any fun s => decide (lo ≤ s ∧ (hi = 0 ∨ s ≤ hi)))) → loopP (gN 5) (sIf (tAnd1 (tB1 (xBin leD (xVar 1) (xVar 5))) (tOr1 (tB1 (xBin eqD (xVar 2) (xC (.int 0)))) (tB1 (xBin leD (xVar 5) (xVar 2))))) (sRet (xC (.bl true))) sNext)
      { nx := sRet (xC (.bl false)) { nx := fun _ => k .non, rt := k }, rt := k } (r.1.map D.int) [some (.d (rowD r)), some (.d (.int lo)), some (.d (.int hi)), some (.d (.tup (r.1.map D.int))), some (.d (.int r.2)), none] := fun hk => by
    refine loopP_enc D.int (fun xs ρ => k (.bl (xs.any fun s => decide (lo ≤ s ∧ (hi = 0 ∨ s ≤ hi)))) ∧ ∃ y, ρ = [some (.d (rowD r)), some (.d (.int lo)), some (.d (.int hi)), some (.d (.tup (r.1.map D.int))), some (.d (.int r.2)), y]) (fun ρ q => ?_) (fun s xs ρ C hC q => ?_) _ _ ⟨hk, _, rfl⟩
    · exact q.1
    · obtain ⟨h, y, rfl⟩ := q
      rw [List.any_cons] at h
      have g := fun w => hC [some (.d (rowD r)), some (.d (.int lo)), some (.d (.int hi)), some (.d (.tup (r.1.map D.int))), some (.d (.int r.2)), some (.d (.int s))] ⟨w, _, rfl⟩
      by_cases c1 : lo ≤ s <;> by_cases c2 : hi = 0 <;> by_cases c3 : s ≤ hi <;> simp [c1, c2, c3] at h g ⊢ <;> first | exact h | exact g h | skip
      all_goals (subst c2; simp [c1, c3] at h g ⊢; first | exact h | exact g h)
  simp [t_has_some, startP]
  by_cases c0 : r.2 = 0
  · simp [c0] at hk ⊢
    have := go (by simpa using hk)
    rw [c0] at this
    exact this
  · by_cases c1 : hi = 0
    · simp [c0, c1] at hk ⊢; exact hk
    · by_cases c2 : r.2 ≤ hi
      · simp [c0, c1, c2] at hk ⊢; exact hk
      · simp [c0, c1, c2] at hk ⊢
        exact go (by simpa [c1] using hk)
def isEnd (f : Face) (s : Stt) : Bool := ((arrs f.1.length).zip f.2).all fun p => !(decide (p.1 ∈ s.1) && hasSome p.2 s.2.1 s.2.2)
theorem arr_inj {p q : List Int} : (arrD p = arrD q) = (p = q) := by simp
def T_is_ended : FT := fun ds k => ∃ (f : Face) (s : Stt), ds = [faceD f, stD s] ∧ f.1.length ≤ 4 ∧ k (.bl (isEnd f s))
def t_is_ended : TXS := (sSeq (sAsg (xVar 1) (gT [2, 3, 4])) (sSeq (sFor (iZip (xFn 1 T_all_arrangements (aCons (rOf (xCall lenD (aCons (rOf (xIx (rVar 0) (xC (.int 0)))) aNil))) aNil)) (xIx (rVar 0) (xC (.int 1)))) (gT [5, 6]) (sIf (tAnd1 (tB1 (xIn (xVar 5) (rVar 2) (inD false))) (tB1 (xFn 3 T_has_some (aCons (rVar 6) (aCons (rVar 3) (aCons (rVar 4) aNil)))))) (sRet (xC (.bl false))) sNext)) (sRet (xC (.bl true)))))
theorem pure_is_ended : ∀ ds k, ds.length = 2 → T_is_ended ds k → t_is_ended { nx := fun _ => k .non, rt := k } (startP 7 ds) := by
  rintro ds k hl ⟨f, s, rfl, h4, hk⟩
  simp [t_is_ended, startP]
  refine ⟨f.1.length, rfl, h4, ?_⟩
  simp
  rw [zipD_enc arrD rowD]
  refine loopP_enc (fun p : List Int × Row => D.tup [arrD p.1, rowD p.2]) (fun xs ρ => k (.bl (xs.all fun p => !(decide (p.1 ∈ s.1) && hasSome p.2 s.2.1 s.2.2))) ∧ ∃ y z, ρ = [some (.d (faceD f)), some (.d (stD s)), some (.d (.tup (s.1.map arrD))), some (.d (.int s.2.1)), some (.d (.int s.2.2)), y, z]) (fun ρ q => ?_) (fun p xs ρ C hC q => ?_) _ _ ⟨hk, _, _, rfl⟩
  · exact q.1
  · obtain ⟨h, y, z, rfl⟩ := q
    rw [List.all_cons] at h
    have g := fun w => hC [some (.d (faceD f)), some (.d (stD s)), some (.d (.tup (s.1.map arrD))), some (.d (.int s.2.1)), some (.d (.int s.2.2)), some (.d (arrD p.1)), some (.d (rowD p.2))] ⟨w, _, _, rfl⟩
    have cl : (s.1.map arrD).all (D.cl 19) = true := by simp [List.all_eq_true]
    by_cases c1 : p.1 ∈ s.1
    · simp [c1, cl]
      refine ⟨p.2, s.2.1, s.2.2, rfl, ?_⟩
      by_cases c2 : hasSome p.2 s.2.1 s.2.2 = true
      · simp [c1, c2] at h; simp [c2]; exact h
      · simp [c1, c2] at h; simp [c2]; exact g (by simpa using h)
    · simp [c1] at h
      simp [c1, cl]
      exact g (by simpa using h)
def enderG (fs : List Face) (s : Stt) : List Nat → Int
  | [] => -1
  | i :: is => if isEnd (fs.getD i ([], [])) s = true then i else enderG fs s is
def ender (fs : List Face) (s : Stt) : Int := enderG fs s (List.range fs.length)
def T_ender : FT := fun ds k => ∃ (fs : List Face) (s : Stt), ds = [facesD fs, stD s] ∧ fs.length ≤ 1000 ∧ (∀ f ∈ fs, f.1.length ≤ 4) ∧ k (.int (ender fs s))
def t_ender : TXS := (sSeq (sFor (iR1 (xCall lenD (aCons (rVar 0) aNil))) (gN 2) (sIf (tB1 (xFn 2 T_is_ended (aCons (rOf (xIx (rVar 0) (xVar 2))) (aCons (rVar 1) aNil)))) (sRetV 2) sNext)) (sRet (xNeg (xC (.int 1)))))
theorem pure_ender : ∀ ds k, ds.length = 2 → T_ender ds k → t_ender { nx := fun _ => k .non, rt := k } (startP 3 ds) := by
  rintro ds k hl ⟨fs, s, rfl, h1, h4, hk⟩
  have s2 : Sm2 0 (fs.length : Int) := ⟨by omega, by omega, by omega, by omega⟩
  simp [t_ender, startP, s2]
  unfold rngD
  simp
  refine loopP_enc (fun i : Nat => D.int i) (fun xs ρ => (∀ i ∈ xs, i < fs.length) ∧ k (.int (enderG fs s xs)) ∧ ∃ y, ρ = [some (.d (facesD fs)), some (.d (stD s)), y]) (fun ρ q => ?_) (fun i is ρ C hC q => ?_) _ _ ⟨fun i hi => List.mem_range.mp hi, hk, _, rfl⟩
  · obtain ⟨_, h, y, rfl⟩ := q
    simp
    exact h
  · obtain ⟨hi, h, y, rfl⟩ := q
    have il := hi i (List.mem_cons_self ..)
    have g := fun w => hC [some (.d (facesD fs)), some (.d (stD s)), some (.d (.int i))] ⟨fun z hz => hi z (List.mem_cons_of_mem _ hz), w, _, rfl⟩
    have eg : fs.getD i ([], []) = fs[i] := by rw [List.getD_eq_getElem?_getD, List.getElem?_eq_getElem il]; rfl
    rw [enderG, eg] at h
    simp [il]
    refine ⟨fs[i], s, rfl, h4 _ (List.getElem_mem il), ?_⟩
    by_cases c : isEnd fs[i] s = true
    · rw [if_pos c] at h
      simp [c]; exact h
    · rw [if_neg c] at h
      simp [c]; exact g h
end K96
end

section
set_option Elab.async false
set_option linter.all false
set_option maxRecDepth 100000
set_option maxHeartbeats 2000000
namespace K96
open PySem PySem.Spec PyProof.Rows L2 PL
abbrev Prt := Que × Stt × Stt
abbrev ptD (p : Prt) : D := .tup [queD p.1, stD p.2.1, stD p.2.2]
def likeA (s : Stt) (i j : Nat) : List (List Int) := s.1.filter fun a => decide (a.getD i 0 = a.getD j 0)
def unlikeA (s : Stt) (i j : Nat) : List (List Int) := s.1.filter fun a => !decide (a.getD i 0 = a.getD j 0)
def npart1 (s : Stt) (ns : List Str) (i j : Nat) : Option Prt :=
  if likeA s i j ≠ [] ∧ unlikeA s i j ≠ [] then some (.same (ns.getD i Str.empty) (ns.getD j Str.empty), (likeA s i j, s.2.1, s.2.2), (unlikeA s i j, s.2.1, s.2.2)) else none
/-- the places behind i -/
def behind (i n : Nat) : List Nat := (List.range (n - (i + 1))).map fun d => i + 1 + d
def nparts (s : Stt) (ns : List Str) : List Prt := (List.range ns.length).flatMap fun i => (behind i ns.length).filterMap fun j => npart1 s ns i j
def T_name_partings : FT := fun ds k => ∃ (s : Stt) (ns : List Str), ds = [stD s, .tup (ns.map D.str)] ∧ ns.length ≤ 4 ∧ s.1.length ≤ 1000 ∧ (∀ a ∈ s.1, a.length = ns.length) ∧ k (.lst ((nparts s ns).map ptD))
def t_name_partings : TXS := (sSeq (sAsg (xVar 0) (gT [2, 3, 4])) (sSeq (sSetF 5 (fLst aNil)) (sSeq (sFor (iR1 (xCall lenD (aCons (rVar 1) aNil))) (gN 6) (sFor (iR2 (xBin addD (xVar 6) (xC (.int 1))) (xCall lenD (aCons (rVar 1) aNil))) (gN 7) (sSeq (sSet 8 (xCall tupleD (aCons (rOf (xOfF (fLc (jV 2) (.name 10) (tB1 (xBin eqD (xIx (rVar 10) (xVar 6)) (xIx (rVar 10) (xVar 7)))) (xVar 10) [10]))) aNil))) (sSeq (sSet 9 (xCall tupleD (aCons (rOf (xOfF (fLc (jV 2) (.name 10) (tB1 (xBin neD (xIx (rVar 10) (xVar 6)) (xIx (rVar 10) (xVar 7)))) (xVar 10) [10]))) aNil))) (sIf (tAnd1 (tTr (rVar 8)) (tTr (rVar 9))) (sApp 5 (xTup (aCons (rOf (xTup (aCons (rOf (xC (.str ("same" : Str)))) (aCons (rOf (xIx (rVar 1) (xVar 6))) (aCons (rOf (xIx (rVar 1) (xVar 7))) aNil))))) (aCons (rOf (xTup (aCons (rVar 8) (aCons (rVar 3) (aCons (rVar 4) aNil))))) (aCons (rOf (xTup (aCons (rVar 9) (aCons (rVar 3) (aCons (rVar 4) aNil))))) aNil))))) sNext))))) (sRetV 5))))
theorem compP_farr {c : CT} {tt : TXT} {te : TX} {ρ : PEnv} {k : List D → Prop} (p : List Int → Bool) (l : List (List Int)) (hl : l.length ≤ 100000)
    (h : ∀ x ∈ l, ∀ C : Option D → Prop, C (if p x = true then some (arrD x) else none) → c.bind (arrD x) ρ fun ρ2 => tt ρ2 fun b => if b = true then te ρ2 fun y => C (some y) else C none) (hk : k ((l.filter p).map arrD)) : compP c tt te ρ k (l.map arrD) [] := by
  refine compP_fm arrD (fun x => if p x = true then some (arrD x) else none) l [] (by simpa using hl) h ?_
  have e : ∀ l : List (List Int), (l.filterMap fun x => if p x = true then some (arrD x) else none) = (l.filter p).map arrD := by
    intro l
    induction l with
    | nil => rfl
    | cons x l ih => by_cases c : p x = true <;> simp [c] at ih ⊢ <;> exact ih
  rw [e]
  simpa using hk
theorem behind_rng (i n : Nat) : rngD ((i : Int) + 1) n = (behind i n).map fun (j : Nat) => D.int j := by
  unfold rngD behind
  have e : ((n : Int) - ((i : Int) + 1)).toNat = n - (i + 1) := by omega
  rw [e, List.map_map]
  apply List.map_congr_left
  intro d _
  simp
theorem behind_mem {i n j : Nat} (h : j ∈ behind i n) : i < j ∧ j < n := by
  obtain ⟨d, hd, rfl⟩ := List.mem_map.mp h
  have := List.mem_range.mp hd
  omega
theorem fm_len {α β : Type} (f : α → Option β) : ∀ l : List α, (l.filterMap f).length ≤ l.length := fun l => List.length_filterMap_le f l
theorem pure_name_partings : ∀ ds k, ds.length = 2 → T_name_partings ds k → t_name_partings { nx := fun _ => k .non, rt := k } (startP 11 ds) := by
  rintro ds k hl ⟨s, ns, rfl, h4, hs, ha, hk⟩
  have sm0 : Sm 0 := by unfold Sm; omega
  have sm3 : Sm 3 := by unfold Sm; omega
  have s2 : Sm2 0 (ns.length : Int) := ⟨by omega, by omega, by omega, by omega⟩
  simp [t_name_partings, startP, sm0, s2]
  unfold rngD
  simp
  refine loopP_enc (fun i : Nat => D.int i) (fun is ρ => (∀ i ∈ is, i < ns.length) ∧ ∃ (acc : List Prt) (b c d e f : Option PV), k (.lst ((acc ++ is.flatMap fun i => (behind i ns.length).filterMap fun j => npart1 s ns i j).map ptD)) ∧ acc.length + is.length * 4 ≤ 1000 ∧ ρ = [some (.d (stD s)), some (.d (.tup (ns.map D.str))), some (.d (.tup (s.1.map arrD))), some (.d (.int s.2.1)), some (.d (.int s.2.2)), some (.own (acc.map ptD)), b, c, d, e, f]) (fun ρ q => ?_) (fun i is ρ C hC q => ?_) _ _ ⟨fun i hi => List.mem_range.mp hi, [], _, _, _, _, _, hk, by simp; omega, rfl⟩
  · obtain ⟨_, acc, b, c, d, e, f, h, _, rfl⟩ := q
    simp at h ⊢
    exact h
  · obtain ⟨hi, acc, b, c, d, e, f, h, hb, rfl⟩ := q
    have il := hi i (List.mem_cons_self ..)
    have s3 : Sm2 ((i : Int) + 1) (ns.length : Int) := ⟨by omega, by omega, by omega, by omega⟩
    simp [s3]
    rw [behind_rng]
    have bl : (behind i ns.length).length ≤ 4 := by simp [behind]; omega
    rw [List.length_cons] at hb
    refine loopP_enc (fun j : Nat => D.int j) (fun js ρ => (∀ j ∈ js, j < ns.length) ∧ ∃ (acc : List Prt) (c d e f : Option PV), k (.lst ((acc ++ js.filterMap (npart1 s ns i) ++ is.flatMap fun i => (behind i ns.length).filterMap fun j => npart1 s ns i j).map ptD)) ∧ acc.length + js.length + is.length * 4 ≤ 1000 ∧ ρ = [some (.d (stD s)), some (.d (.tup (ns.map D.str))), some (.d (.tup (s.1.map arrD))), some (.d (.int s.2.1)), some (.d (.int s.2.2)), some (.own (acc.map ptD)), some (.d (.int i)), c, d, e, f]) (fun ρ q => ?_) (fun j js ρ C2 hC2 q => ?_) _ _ ⟨fun j hj => (behind_mem hj).2, acc, _, _, _, _, by rw [List.flatMap_cons, ← List.append_assoc] at h; exact h, by omega, rfl⟩
    · obtain ⟨_, acc, c, d, e, f, h, hb, rfl⟩ := q
      exact hC _ ⟨fun z hz => hi z (List.mem_cons_of_mem _ hz), acc, _, _, _, _, _, by simpa using h, by simpa using hb, rfl⟩
    · obtain ⟨hj, acc, c, d, e, z9, h, hb, rfl⟩ := q
      have jl := hj j (List.mem_cons_self ..)
      rw [List.length_cons] at hb
      have smA : Sm (acc.length + 1) := by unfold Sm; omega
      simp
      refine compP_farr (fun a => decide (a.getD i 0 = a.getD j 0)) _ (by omega) (fun a has Cc hCc => ?_) ?_
      · have al := ha a has
        have g1 : i < a.length := by omega
        have g2 : j < a.length := by omega
        by_cases c1 : a[i] = a[j] <;> simp [g1, g2, c1] at hCc ⊢ <;> exact hCc
      · rw [show s.1.filter (fun a => decide (a.getD i 0 = a.getD j 0)) = likeA s i j from rfl]
        simp
        refine compP_farr (fun a => !decide (a.getD i 0 = a.getD j 0)) _ (by omega) (fun a has Cc hCc => ?_) ?_
        · have al := ha a has
          have g1 : i < a.length := by omega
          have g2 : j < a.length := by omega
          by_cases c1 : a[i] = a[j] <;> simp [g1, g2, c1] at hCc ⊢ <;> exact hCc
        · skip
          rw [show s.1.filter (fun a => !decide (a.getD i 0 = a.getD j 0)) = unlikeA s i j from rfl]
          have go : ∀ o : Option Prt, npart1 s ns i j = o → k (.lst ((acc ++ o.toList ++ js.filterMap (npart1 s ns i) ++ is.flatMap fun i => (behind i ns.length).filterMap fun j => npart1 s ns i j).map ptD)) := fun o eo => by
            rw [List.filterMap_cons, eo] at h
            cases o <;> simpa using h
          have fin : ∀ o : Option Prt, npart1 s ns i j = o → C2 [some (.d (stD s)), some (.d (.tup (ns.map D.str))), some (.d (.tup (s.1.map arrD))), some (.d (.int s.2.1)), some (.d (.int s.2.2)), some (.own ((acc ++ o.toList).map ptD)), some (.d (.int i)), some (.d (.int j)), some (.d (.tup ((likeA s i j).map arrD))), some (.d (.tup ((unlikeA s i j).map arrD))), z9] := fun o eo =>
            hC2 _ ⟨fun z hz => hj z (List.mem_cons_of_mem _ hz), acc ++ o.toList, _, _, _, _, go o eo, by cases o <;> simp <;> omega, rfl⟩
          by_cases c1 : likeA s i j = []
          · have f := fin none (by unfold npart1; rw [if_neg (fun q => q.1 c1)])
            simp [c1] at f ⊢
            exact f
          · by_cases c2 : unlikeA s i j = []
            · have f := fin none (by unfold npart1; rw [if_neg (fun q => q.2 c2)])
              simp [c1, c2] at f ⊢
              exact f
            · have f := fin (some (.same (ns.getD i Str.empty) (ns.getD j Str.empty), (likeA s i j, s.2.1, s.2.2), (unlikeA s i j, s.2.1, s.2.2))) (by unfold npart1; rw [if_pos ⟨c1, c2⟩])
              simp [il, jl] at f
              simp [c1, c2, sm3, smA, il, jl]
              exact f
end K96
end

section
set_option Elab.async false
set_option linter.all false
set_option maxRecDepth 100000
set_option maxHeartbeats 2000000
namespace K96
open PySem PySem.Spec PyProof.Rows L2 PL
def lastOf (s : Stt) (mk : Int) : Int := if s.2.2 ≠ 0 ∧ s.2.2 - 1 < mk then s.2.2 - 1 else mk
def sparts (s : Stt) (mk : Int) : List Prt := (rngI s.2.1 (lastOf s mk + 1)).map fun z => (.size z, (s.1, s.2.1, z), (s.1, z + 1, s.2.2))
def T_size_partings : FT := fun ds k => ∃ (s : Stt) (mk : Int), ds = [stD s, .int mk] ∧ -1000 ≤ s.2.1 ∧ s.2.1 ≤ 1000 ∧ -1000 ≤ s.2.2 ∧ s.2.2 ≤ 1000 ∧ -1000 ≤ mk ∧ mk ≤ 1000 ∧ k (.lst ((sparts s mk).map ptD))
def t_size_partings : TXS := (sSeq (sAsg (xVar 0) (gT [2, 3, 4])) (sSeq (sMove 5 1) (sSeq (sIf (tAnd1 (tTr (rVar 4)) (tB1 (xBin ltD (xBin subD (xVar 4) (xC (.int 1))) (xVar 1)))) (sSet 5 (xBin subD (xVar 4) (xC (.int 1)))) sNext) (sRet (xOfF (fLc (jR2 (xVar 3) (xBin addD (xVar 5) (xC (.int 1)))) (.name 6) tYesP (xTup (aCons (rOf (xTup (aCons (rOf (xC (.str ("size" : Str)))) (aCons (rVar 6) aNil)))) (aCons (rOf (xTup (aCons (rVar 2) (aCons (rVar 3) (aCons (rVar 6) aNil))))) (aCons (rOf (xTup (aCons (rVar 2) (aCons (rOf (xBin addD (xVar 6) (xC (.int 1)))) (aCons (rVar 4) aNil))))) aNil)))) [6]))))))
theorem pure_size_partings : ∀ ds k, ds.length = 2 → T_size_partings ds k → t_size_partings { nx := fun _ => k .non, rt := k } (startP 7 ds) := by
  rintro ds k hl ⟨s, mk, rfl, h1, h2, h3, h4, h5, h6, hk⟩
  have sm2 : Sm 2 := by unfold Sm; omega
  have sm3 : Sm 3 := by unfold Sm; omega
  have go : ∀ last : Int, lastOf s mk = last → fLc (jR2 (xVar 3) (xBin addD (xVar 5) (xC (.int 1)))) (.name 6) tYesP (xTup (aCons (rOf (xTup (aCons (rOf (xC (.str ("size" : Str)))) (aCons (rVar 6) aNil)))) (aCons (rOf (xTup (aCons (rVar 2) (aCons (rVar 3) (aCons (rVar 6) aNil))))) (aCons (rOf (xTup (aCons (rVar 2) (aCons (rOf (xBin addD (xVar 6) (xC (.int 1)))) (aCons (rVar 4) aNil))))) aNil)))) [6]
      [some (.d (stD s)), some (.d (.int mk)), some (.d (.tup (s.1.map arrD))), some (.d (.int s.2.1)), some (.d (.int s.2.2)), some (.d (.int last)), none] fun xs => k (.lst xs) := fun last e => by
    have lb : -1001 ≤ last ∧ last ≤ 1000 := by rw [← e]; unfold lastOf; split <;> omega
    have s2 : Sm2 s.2.1 (last + 1) := ⟨by omega, by omega, by omega, by omega⟩
    simp [s2]
    rw [rng_rngI]
    refine compP_map D.int (fun z => ptD (.size z, (s.1, s.2.1, z), (s.1, z + 1, s.2.2))) _ (by rw [rngI_len]; omega) (fun z hz C hC => ?_) ?_
    · simp [sm2, sm3]
      exact hC
    · have e2 : (sparts s mk).map ptD = (rngI s.2.1 (last + 1)).map fun z => ptD (.size z, (s.1, s.2.1, z), (s.1, z + 1, s.2.2)) := by unfold sparts; rw [e, List.map_map]; rfl
      rw [← e2]
      exact hk
  simp only [t_size_partings, s_sSeq, s_sAsg, s_xVar, startP, List.map_cons, List.map_nil, List.length_cons, List.length_nil, List.replicate, List.cons_append, List.nil_append, List.getElem?_cons_zero, s_xD, s_gT, s_gs1, s_gs0, List.set_cons_succ, List.set_cons_zero, List.getElem?_cons_succ, s_sMove, s_xP, true_and]
  simp
  by_cases c1 : s.2.2 = 0
  · have g := go mk (by unfold lastOf; rw [if_neg (fun q => q.1 c1)])
    simp only [c1] at g ⊢
    simpa using g
  · by_cases c2 : s.2.2 - 1 < mk
    · have g := go (s.2.2 - 1) (by unfold lastOf; rw [if_pos ⟨c1, c2⟩])
      simp [c1, c2] at g ⊢
      exact g
    · have g := go mk (by unfold lastOf; rw [if_neg (fun q => c2 q.2)])
      simp [c1, c2] at g ⊢
      exact g
def parts (s : Stt) (ns : List Str) (mk : Int) : List Prt := nparts s ns ++ sparts s mk
theorem flat_len {α β : Type} (f : α → List β) (c : Nat) : ∀ l : List α, (∀ x ∈ l, (f x).length ≤ c) → (l.flatMap f).length ≤ c * l.length
  | [], _ => by simp
  | x :: l, h => by
    have h1 := h x (List.mem_cons_self ..)
    have ih := flat_len f c l fun y hy => h y (List.mem_cons_of_mem _ hy)
    rw [List.flatMap_cons, List.length_append, List.length_cons, Nat.mul_succ]
    omega
theorem nparts_len {s : Stt} {ns : List Str} (h : ns.length ≤ 4) : (nparts s ns).length ≤ 16 := by
  have := flat_len (fun i => (behind i ns.length).filterMap fun j => npart1 s ns i j) 4 (List.range ns.length) fun i hi => by
    have h1 : ((behind i ns.length).filterMap fun j => npart1 s ns i j).length ≤ _ := List.length_filterMap_le (npart1 s ns i) (behind i ns.length)
    have : (behind i ns.length).length ≤ 4 := by simp [behind]; omega
    omega
  rw [List.length_range] at this
  unfold nparts
  omega
def T_partings : FT := fun ds k => ∃ (s : Stt) (ns : List Str) (mk : Int), ds = [stD s, .tup (ns.map D.str), .int mk] ∧ ns.length ≤ 4 ∧ s.1.length ≤ 1000 ∧ (∀ a ∈ s.1, a.length = ns.length) ∧ -1000 ≤ s.2.1 ∧ s.2.1 ≤ 1000 ∧ -1000 ≤ s.2.2 ∧ s.2.2 ≤ 1000 ∧ -1000 ≤ mk ∧ mk ≤ 1000 ∧ k (.lst ((parts s ns mk).map ptD))
def t_partings : TXS := (sRet (xBin addD (xFn 2 T_name_partings (aCons (rVar 0) (aCons (rVar 1) aNil))) (xFn 2 T_size_partings (aCons (rVar 0) (aCons (rVar 2) aNil)))))
theorem pure_partings : ∀ ds k, ds.length = 3 → T_partings ds k → t_partings { nx := fun _ => k .non, rt := k } (startP 3 ds) := by
  rintro ds k hl ⟨s, ns, mk, rfl, h4, a1, a2, h1, h2, h3, h5, h6, h7, hk⟩
  have l1 := nparts_len (s := s) h4
  have l2 : (sparts s mk).length ≤ 3000 := by
    unfold sparts
    rw [List.length_map, rngI_len]
    unfold lastOf
    split <;> omega
  have sm : Sm ((nparts s ns).length + (sparts s mk).length) := by unfold Sm; omega
  simp only [t_partings, s_sRet, s_xBin, s_xFn, s_aCons, s_aNil, s_rVar, startP, List.map_cons, List.map_nil, List.length_cons, List.length_nil, List.replicate, List.cons_append, List.nil_append, List.getElem?_cons_zero, List.getElem?_cons_succ, s_xP, true_and]
  refine ⟨s, ns, rfl, h4, a1, a2, fun h => by simp at h, s, mk, rfl, h1, h2, h3, h5, h6, h7, fun h => by simp at h, ?_⟩
  simp only [s_addL, List.length_map]
  refine ⟨sm, ?_⟩
  rw [← List.map_append]
  exact hk
def wid (s : Stt) (mk : Int) : Int := (s.1.length : Int) + (if s.2.2 = 0 then mk + 1 else s.2.2) - s.2.1
def T_width : FT := fun ds k => ∃ (s : Stt) (mk : Int), ds = [stD s, .int mk] ∧ k (.int (wid s mk))
def t_width : TXS := (sSeq (sAsg (xVar 0) (gT [2, 3, 4])) (sSeq (sMove 5 4) (sSeq (sIf (tB1 (xBin eqD (xVar 4) (xC (.int 0)))) (sSet 5 (xBin addD (xVar 1) (xC (.int 1)))) sNext) (sRet (xBin subD (xBin addD (xCall lenD (aCons (rVar 2) aNil)) (xVar 5)) (xVar 3))))))
theorem pure_width : ∀ ds k, ds.length = 2 → T_width ds k → t_width { nx := fun _ => k .non, rt := k } (startP 6 ds) := by
  rintro ds k hl ⟨s, mk, rfl, hk⟩
  unfold wid at hk
  simp [t_width, startP]
  by_cases c : s.2.2 = 0 <;> simp [c] at hk ⊢ <;> exact hk
def T_check_split_faces : FT := fun ds k => ∃ (fs : List Face) (ns : List Str), ds = [facesD fs] ∧ FsOk fs ns ∧ noC (metF ns fs) = true ∧ k .non
def t_check_split_faces : TXS := (sIf (tOr1 (tNot1 (tB1 (xFn 2 T_are_faces (aCons (rVar 0) (aCons (rOf (xC (.int 3))) aNil))))) (tNot1 (tB1 (xFn 1 T_no_cells (aCons (rOf (xFn 2 T_met_faces (aCons (rOf (xIx (rOf (xIx (rVar 0) (xC (.int 0)))) (xC (.int 0)))) (aCons (rVar 0) aNil)))) aNil))))) (fun _ _ => False) sNext)
theorem FsOk.sml {fs : List Face} {ns : List Str} (h : FsOk fs ns) : ∀ f ∈ fs, FSml f := fun f hf r hr => by
  have ok := (h.ok f hf).1
  obtain ⟨i, hi, rfl⟩ := List.getElem_of_mem hr
  have hl := ok.len
  have : ((arrs f.1.length)[i]'(by omega), f.2[i]) ∈ (arrs f.1.length).zip f.2 := by
    have hz : i < ((arrs f.1.length).zip f.2).length := by rw [List.length_zip]; omega
    have := List.getElem_mem hz
    rwa [List.getElem_zip] at this
  exact (ok.rows _ this).1.sml
theorem pure_check_split_faces : ∀ ds k, ds.length = 1 → T_check_split_faces ds k → t_check_split_faces { nx := fun _ => k .non, rt := k } (startP 1 ds) := by
  rintro ds k hl ⟨fs, ns, rfl, h, hc, hk⟩
  obtain ⟨f, rest, ef, en⟩ := h.at0
  have g0 : atI (fs.map faceD) 0 = some (faceD f) := by rw [ef, List.map_cons, atI_zero]
  have n3 := h.n3
  simp [t_check_split_faces, startP]
  refine ⟨fs, ns, 3, rfl, h, by omega, ?_⟩
  simp [g0, en]
  refine ⟨ns, fs, rfl, by omega, h.sml, ?_⟩
  simp
  refine ⟨metF ns fs, rfl, ?_⟩
  simp [hc]
  exact hk
inductive Tree where
  | fin (p : Nat) | spl (q : Que) (a b : Tree)
def treeD : Tree → D
  | .fin p => .tup [.str "end", .int p]
  | .spl q a b => .tup [.str "split", queD q, .tup [treeD a, treeD b]]
def ends : Tree → Nat
  | .fin _ => 1
  | .spl _ a b => ends a + ends b
def nodes : Tree → Nat
  | .fin _ => 1
  | .spl _ a b => 1 + nodes a + nodes b
def sumT (f : Tree → Nat) : List Tree → Nat
  | [] => 0
  | t :: ts => f t + sumT f ts
theorem nodes_pos : ∀ t, 1 ≤ nodes t
  | .fin _ => Nat.le_refl _
  | .spl _ a b => by unfold nodes; omega
theorem sum_len : ∀ ts : List Tree, ts.length ≤ sumT nodes ts
  | [] => Nat.le_refl _
  | t :: ts => by
    have := sum_len ts
    have := nodes_pos t
    simp [sumT]; omega
def T_ends_of : FT := fun ds k => ∃ t : Tree, ds = [treeD t] ∧ nodes t ≤ 1000 ∧ k (.int (ends t))
def t_ends_of : TXS := (sSeq (sSet 1 (xC (.int 0))) (sSeq (sSetF 2 (fLst (aCons (rVar 0) aNil))) (sSeq (sWhile (tTr (rVar 2)) (sSeq (sPop 2 (gN 3)) (sIf (tB1 (xBin eqD (xIx (rVar 3) (xC (.int 0))) (xC (.str ("end" : Str))))) (sAug 1 (· + ·) (xC (.int 1))) (sExt 2 (xIx (rVar 3) (xC (.int 2))))))) (sRetV 1))))
theorem pure_ends_of : ∀ ds k, ds.length = 1 → T_ends_of ds k → t_ends_of { nx := fun _ => k .non, rt := k } (startP 4 ds) := by
  rintro ds k hl ⟨t, rfl, hn, hk⟩
  have sm1 : Sm 1 := by unfold Sm; omega
  have lp : ∀ (n : Nat) (rs : List Tree) (c : Nat) (y : Option PV), sumT nodes rs + 1 = n → sumT nodes rs ≤ 1000 → k (.int ((c + sumT ends rs : Nat) : Int)) → whileP (tTr (rVar 2)) (sSeq (sPop 2 (gN 3)) (sIf (tB1 (xBin eqD (xIx (rVar 3) (xC (.int 0))) (xC (.str ("end" : Str))))) (sAug 1 (· + ·) (xC (.int 1))) (sExt 2 (xIx (rVar 3) (xC (.int 2))))))
      { nx := sRetV 1 { nx := fun _ => k .non, rt := k }, rt := k } n [some (.d (treeD t)), some (.d (.int c)), some (.own (rs.reverse.map treeD)), y] := by
    intro n
    induction n with
    | zero => intro rs c y e; omega
    | succ n ih =>
      intro rs c y e hb hk
      rw [whileP]
      cases rs with
      | nil =>
        simp [sumT] at hk ⊢
        exact hk
      | cons r rs =>
        cases r with
        | fin p =>
          simp only [sumT, nodes, ends] at e hb hk
          have g := ih rs (c + 1) (some (.d (treeD (.fin p)))) (by omega) (by omega) (by rw [show c + 1 + sumT ends rs = c + (1 + sumT ends rs) by omega]; exact hk)
          simp [treeD] at g ⊢
          exact g
        | spl q a b =>
          simp only [sumT, nodes, ends] at e hb hk
          have ll := sum_len rs
          have sm : Sm (rs.length + 2) := by unfold Sm; omega
          have g := ih (b :: a :: rs) c (some (.d (treeD (.spl q a b)))) (by simp only [sumT]; omega) (by simp only [sumT]; omega) (by simp only [sumT]; rw [show c + (ends b + (ends a + sumT ends rs)) = c + (ends a + ends b + sumT ends rs) by omega]; exact hk)
          simp [treeD, sm] at g ⊢
          exact g
  have := lp (nodes t + 1) [t] 0 none (by simp [sumT]) (by simpa [sumT] using hn) (by simpa [sumT] using hk)
  simp [t_ends_of, startP, sm1]
  exact ⟨nodes t + 1, by simpa using this⟩
/-- right questions over the names -/
def QOk (ns : List Str) : Que → Prop
  | .same x y => x ∈ ns ∧ y ∈ ns ∧ x.cps.toList < y.cps.toList
  | .size n => 1 ≤ n ∧ n ≤ 19
theorem str_mem {x : Str} {ns : List Str} : (D.str x ∈ ns.map D.str) = (x ∈ ns) := by simp
def T_split_answers : FT := fun ds k => ∃ (q : Que) (a b : Tree) (ns : List Str), ds = [treeD (.spl q a b), .tup (ns.map D.str)] ∧ QOk ns q ∧ (∀ x ∈ ns, GoodN x ∧ PyData.strOk x = true) ∧ k (.tup [factD (ansA q), factD (ansB q)])
def t_split_answers : TXS := (sSeq (sIf (tOr1 (tNot1 (tB1 (xFn 1 T_is_triple (aCons (rVar 0) aNil)))) (tOr1 (tB1 (xBin neD (xIx (rVar 0) (xC (.int 0))) (xC (.str ("split" : Str))))) (tOr1 (tNot1 (tB1 (xFn 1 T_is_question (aCons (rOf (xIx (rVar 0) (xC (.int 1)))) aNil)))) (tNot1 (tB1 (xFn 1 T_is_shared_question (aCons (rOf (xIx (rVar 0) (xC (.int 1)))) aNil))))))) (sRet (xC .non)) sNext) (sSeq (sIf (tAnd1 (tB1 (xBin eqD (xIx (rOf (xIx (rVar 0) (xC (.int 1)))) (xC (.int 0))) (xC (.str ("same" : Str))))) (tOr1 (tB1 (xIn (xIx (rOf (xIx (rVar 0) (xC (.int 1)))) (xC (.int 1))) (rVar 1) (inD true))) (tB1 (xIn (xIx (rOf (xIx (rVar 0) (xC (.int 1)))) (xC (.int 2))) (rVar 1) (inD true))))) (sRet (xC .non)) sNext) (sSeq (sIf (tOr1 (tNot1 (tB1 (xIsi isTupD (rOf (xIx (rVar 0) (xC (.int 2))))))) (tB1 (xBin neD (xCall lenD (aCons (rOf (xIx (rVar 0) (xC (.int 2)))) aNil)) (xC (.int 2))))) (sRet (xC .non)) sNext) (sRet (xFn 3 T_answers (aCons (rOf (xIx (rVar 0) (xC (.int 1)))) (aCons (rOf (xTup aNil)) (aCons (rOf (xTup aNil)) aNil))))))))
theorem pure_split_answers : ∀ ds k, ds.length = 2 → T_split_answers ds k → t_split_answers { nx := fun _ => k .non, rt := k } (startP 2 ds) := by
  rintro ds k hl ⟨q, a, b, ns, rfl, hq, hn, hk⟩
  have sm0 : Sm 0 := by unfold Sm; omega
  have cl : (ns.map D.str).all (D.cl 19) = true := by simp [List.all_eq_true]; exact fun x hx => (hn x hx).2
  cases q with
  | same x y =>
    obtain ⟨h1, h2, h3⟩ := hq
    obtain ⟨g1, o1⟩ := hn x h1
    obtain ⟨g2, o2⟩ := hn y h2
    have m1 : D.str x ∈ ns.map D.str := List.mem_map.mpr ⟨x, h1, rfl⟩
    have m2 : D.str y ∈ ns.map D.str := List.mem_map.mpr ⟨y, h2, rfl⟩
    generalize ns.map D.str = N at m1 m2 cl
    have cl2 : (D.tup N).cln = true := by simpa using cl
    simp [t_split_answers, startP, T_is_triple, treeD]
    refine ⟨.same x y, rfl, ⟨g1, g2, h3, o1, o2⟩, ?_⟩
    simp
    refine ⟨.same x y, rfl, ?_⟩
    have cl3 : ∀ z ∈ N, D.cl 19 z = true := by simpa [List.all_eq_true] using cl
    simp [o1, o2, m1, m2, isDicD, isTupD, sm0]
    refine ⟨cl3, ?_⟩
    exact ⟨.same x y, _, _, rfl, hk⟩
  | size n =>
    obtain ⟨h1, h2⟩ := hq
    simp [t_split_answers, startP, T_is_triple, treeD]
    refine ⟨.size n, rfl, ⟨h1, by omega⟩, ?_⟩
    simp
    refine ⟨.size n, rfl, ?_⟩
    simp [isDicD, isTupD, sm0]
    exact ⟨.size n, _, _, rfl, hk⟩
end K96
end

section
set_option Elab.async false
set_option linter.all false
set_option maxRecDepth 100000
set_option maxHeartbeats 2000000
namespace K96
open PySem PySem.Spec PyProof.Rows L2 PL
/-- facts whose sizes are small -/
def BndOk (fs : List Fact) : Prop := 1 ≤ (bnd fs).1 ∧ (bnd fs).1 ≤ 20 ∧ 0 ≤ (bnd fs).2 ∧ (bnd fs).2 ≤ 20
theorem bnd_snoc (fs : List Fact) (f : Fact) : bnd (fs ++ [f]) = bstep (bnd fs) f := by unfold bnd; rw [List.foldl_append]; rfl
theorem BndOk.a {ns : List Str} {fs : List Fact} {q : Que} (h : BndOk fs) (hq : QOk ns q) : BndOk (fs ++ [ansA q]) := by
  unfold BndOk at *
  rw [bnd_snoc]
  cases q with
  | same x y => exact h
  | size n =>
    obtain ⟨h1, h2⟩ := hq
    simp only [ansA, bstep]
    split <;> omega
theorem BndOk.b {ns : List Str} {fs : List Fact} {q : Que} (h : BndOk fs) (hq : QOk ns q) : BndOk (fs ++ [ansB q]) := by
  unfold BndOk at *
  rw [bnd_snoc]
  cases q with
  | same x y => exact h
  | size n =>
    obtain ⟨h1, h2⟩ := hq
    simp only [ansB, bstep]
    omega
theorem BndOk.nil : BndOk [] := by unfold BndOk bnd; simp
theorem betw_sml {lo hi : Int} (h1 : 1 ≤ lo) (h2 : hi ≤ 20) : Sml (betw lo hi) := by
  unfold betw
  split
  · exact nil_sml
  · unfold fromTo
    split
    · exact nil_sml
    · exact tidy_sml fun s hs => by
        have := rngI_mem.mp hs
        omega
theorem keepF_sml {ns : List Str} {fs : List Fact} (h : BndOk fs) : FSml (keepF ns fs) := fun r hr => by
  obtain ⟨a, _, rfl⟩ := List.mem_map.mp hr
  obtain ⟨h1, h2, h3, h4⟩ := h
  split
  · exact meetR_sml (betw_sml h1 h4) nil_sml
  · exact nil_sml
def endOk (fs : List Face) (p : Nat) (fcs : List Fact) : Bool := noC (meetF (fs.getD p ([], [])) (keepF (fs.getD p ([], [])).1 fcs))
theorem RisS.nodup {xs : List Str} (h : RisS xs) : xs.Nodup := List.Pairwise.imp (fun {a b} lt e => by subst e; exact absurd lt (List.lt_irrefl _)) h
def T_is_split_end : FT := fun ds k => ∃ (p : Nat) (fs : List Face) (ns : List Str) (fcs : List Fact), ds = [treeD (.fin p), facesD fs, .tup (fcs.map factD)] ∧ FsOk fs ns ∧ p < fs.length ∧ BndOk fcs ∧ k (.bl (endOk fs p fcs))
def t_is_split_end : TXS := (sSeq (sIf (tNot1 (tB1 (xFn 3 T_is_number (aCons (rOf (xIx (rVar 0) (xC (.int 1)))) (aCons (rOf (xC (.int 0))) (aCons (rOf (xBin subD (xCall lenD (aCons (rVar 1) aNil)) (xC (.int 1)))) aNil)))))) (sRet (xC (.bl false))) sNext) (sSeq (sSet 3 (xIx (rVar 1) (xIx (rVar 0) (xC (.int 1))))) (sRet (xFn 1 T_no_cells (aCons (rOf (xFn 2 T_meet_faces (aCons (rVar 3) (aCons (rOf (xFn 2 T_face_keeping (aCons (rOf (xIx (rVar 3) (xC (.int 0)))) (aCons (rVar 2) aNil)))) aNil)))) aNil)))))
theorem pure_is_split_end : ∀ ds k, ds.length = 3 → T_is_split_end ds k → t_is_split_end { nx := fun _ => k .non, rt := k } (startP 4 ds) := by
  rintro ds k hl ⟨p, fs, ns, fcs, rfl, h, hp, hb, hk⟩
  have fok := h.ok fs[p] (List.getElem_mem hp)
  have eg : fs.getD p ([], []) = fs[p] := by rw [List.getD_eq_getElem?_getD, List.getElem?_eq_getElem hp]; rfl
  have few := h.few
  have sml := h.sml fs[p] (List.getElem_mem hp)
  obtain ⟨b1, b2, b3, b4⟩ := id hb
  unfold endOk at hk
  rw [eg] at hk
  simp [t_is_split_end, startP, treeD]
  refine ⟨p, 0, (fs.length : Int) - 1, rfl, ?_⟩
  have c : (p : Int) ≤ (fs.length : Int) - 1 := by omega
  simp [c, hp]
  have n3 := fok.1.n3
  refine ⟨fs[p].1, fcs, rfl, fok.1.ris.nodup, by omega, by omega, by omega, by omega, by omega, by omega, by have := (betw_sml b1 b4).len; omega, ?_⟩
  simp only [List.map_cons, List.map_nil, PV.dat_d]
  have ks := keepF_sml (ns := fs[p].1) hb
  have l1 : fs[p].2.length ≤ 1000 := by
    rw [fok.1.len]
    have := arrs_len fs[p].1.length (by omega)
    omega
  refine faceD_meet sml ks l1 ?_
  exact ⟨_, rfl, hk⟩
/-- right trees -/
def TOk (ns : List Str) (m : Nat) : Tree → Prop
  | .fin p => p < m
  | .spl q a b => QOk ns q ∧ TOk ns m a ∧ TOk ns m b
def judge (fs : List Face) : Tree → List Fact → Bool
  | .fin p, fcs => endOk fs p fcs
  | .spl q a b, fcs => judge fs a (fcs ++ [ansA q]) && judge fs b (fcs ++ [ansB q])
abbrev itD (p : Tree × List Fact) : D := .tup [treeD p.1, .tup (p.2.map factD)]
def sumI : List (Tree × List Fact) → Nat
  | [] => 0
  | p :: ps => nodes p.1 + sumI ps
theorem sumI_len : ∀ ps : List (Tree × List Fact), ps.length ≤ sumI ps
  | [] => Nat.le_refl _
  | p :: ps => by
    have := sumI_len ps
    have := nodes_pos p.1
    simp [sumI]; omega
def T_judge_split : FT := fun ds k => ∃ (t : Tree) (fs : List Face) (ns : List Str), ds = [treeD t, facesD fs] ∧ FsOk fs ns ∧ TOk ns fs.length t ∧ nodes t ≤ 1000 ∧ k (.bl (judge fs t []))
def t_judge_split : TXS := (sSeq (sIf (tNot1 (tB1 (xFn 2 T_are_faces (aCons (rVar 1) (aCons (rOf (xC (.int 3))) aNil))))) (fun _ _ => False) sNext) (sSeq (sSetF 2 (fLst (aCons (rOf (xTup (aCons (rVar 0) (aCons (rOf (xTup aNil)) aNil)))) aNil))) (sSeq (sWhile (tTr (rVar 2)) (sSeq (sPop 2 (gT [3, 4])) (sIf (tAnd1 (tB1 (xFn 1 T_is_pair (aCons (rVar 3) aNil))) (tB1 (xBin eqD (xIx (rVar 3) (xC (.int 0))) (xC (.str ("end" : Str)))))) (sIf (tNot1 (tB1 (xFn 3 T_is_split_end (aCons (rVar 3) (aCons (rVar 1) (aCons (rVar 4) aNil)))))) (sRet (xC (.bl false))) sNext) (sSeq (sSet 5 (xFn 2 T_split_answers (aCons (rVar 3) (aCons (rOf (xIx (rOf (xIx (rVar 1) (xC (.int 0)))) (xC (.int 0)))) aNil)))) (sSeq (sIf (tB1 (xBin isND (xVar 5) (xC .non))) (sRet (xC (.bl false))) sNext) (sFor (iR1 (xC (.int 2))) (gN 6) (sApp 2 (xTup (aCons (rOf (xIx (rOf (xIx (rVar 3) (xC (.int 2)))) (xVar 6))) (aCons (rOf (xBin addD (xVar 4) (xTup (aCons (rOf (xIx (rVar 5) (xVar 6))) aNil)))) aNil)))))))))) (sRet (xC (.bl true))))))
abbrev JC : TXT := (tTr (rVar 2))
abbrev JB : TXS := (sSeq (sPop 2 (gT [3, 4])) (sIf (tAnd1 (tB1 (xFn 1 T_is_pair (aCons (rVar 3) aNil))) (tB1 (xBin eqD (xIx (rVar 3) (xC (.int 0))) (xC (.str ("end" : Str)))))) (sIf (tNot1 (tB1 (xFn 3 T_is_split_end (aCons (rVar 3) (aCons (rVar 1) (aCons (rVar 4) aNil)))))) (sRet (xC (.bl false))) sNext) (sSeq (sSet 5 (xFn 2 T_split_answers (aCons (rVar 3) (aCons (rOf (xIx (rOf (xIx (rVar 1) (xC (.int 0)))) (xC (.int 0)))) aNil)))) (sSeq (sIf (tB1 (xBin isND (xVar 5) (xC .non))) (sRet (xC (.bl false))) sNext) (sFor (iR1 (xC (.int 2))) (gN 6) (sApp 2 (xTup (aCons (rOf (xIx (rOf (xIx (rVar 3) (xC (.int 2)))) (xVar 6))) (aCons (rOf (xBin addD (xVar 4) (xTup (aCons (rOf (xIx (rVar 5) (xVar 6))) aNil)))) aNil)))))))))
theorem judge_loop {fs : List Face} {ns : List Str} (h : FsOk fs ns) {d0 : D} {k : D → Prop} : ∀ (n : Nat) (rs : List (Tree × List Fact)) (a b c d : Option PV), sumI rs + 1 = n → sumI rs ≤ 1000 → (∀ p ∈ rs, TOk ns fs.length p.1 ∧ BndOk p.2 ∧ p.2.length + nodes p.1 ≤ 2000) → k (.bl (rs.all fun p => judge fs p.1 p.2)) →
    whileP JC JB { nx := sRet (xC (.bl true)) { nx := fun _ => k .non, rt := k }, rt := k } n [some (.d d0), some (.d (facesD fs)), some (.own (rs.reverse.map itD)), a, b, c, d] := by
  obtain ⟨f, rest, ef, en⟩ := h.at0
  have g0 : atI (fs.map faceD) 0 = some (faceD f) := by rw [ef, List.map_cons, atI_zero]
  have sm1 : Sm 1 := by unfold Sm; omega
  have sm2 : Sm 2 := by unfold Sm; omega
  have s2 : Sm2 0 2 := ⟨by omega, by omega, by omega, by omega⟩
  have gn : ∀ x ∈ ns, GoodN x ∧ PyData.strOk x = true := by
    have ok := (h.ok f (by rw [ef]; exact List.mem_cons_self ..)).1
    rw [← en]
    exact fun x hx => ⟨ok.good x hx, ok.ok x hx⟩
  intro n
  induction n with
  | zero => intro rs a b c d e; omega
  | succ n ih =>
    intro rs a b c d e hb hr hk
    rw [whileP]
    cases rs with
    | nil => simp at hk ⊢; exact hk
    | cons r rs =>
      obtain ⟨t, fcs⟩ := r
      obtain ⟨t1, t2, t3⟩ := hr (t, fcs) (List.mem_cons_self ..)
      dsimp only at t1 t2 t3
      rw [List.all_cons] at hk
      have rest' : ∀ p ∈ rs, _ := fun p hp => hr p (List.mem_cons_of_mem _ hp)
      cases t with
      | fin p =>
        simp only [sumI, nodes] at e hb
        simp only [judge] at hk
        have g := fun w => ih rs (some (.d (treeD (.fin p)))) (some (.d (.tup (fcs.map factD)))) c d (by omega) (by omega) rest' w
        simp [T_is_pair, treeD]
        refine ⟨p, fs, ns, fcs, by simp [treeD], h, t1, t2, ?_⟩
        simp
        by_cases q : endOk fs p fcs = true
        · simp [q] at hk ⊢
          have g := g (by simpa using hk)
          simp [treeD] at g
          exact g
        · simp [q] at hk ⊢
          exact hk
      | spl q a' b' =>
        obtain ⟨q1, q2, q3⟩ := t1
        simp only [sumI, nodes] at e hb
        simp only [nodes] at t3
        simp only [judge] at hk
        have ll := sumI_len rs
        have smA : Sm (rs.length + 1) := by unfold Sm; omega
        have smB : Sm (rs.length + 1 + 1) := by unfold Sm; omega
        have smF : Sm (fcs.length + 1) := by unfold Sm; omega
        have g := ih ((b', fcs ++ [ansB q]) :: (a', fcs ++ [ansA q]) :: rs) (some (.d (treeD (.spl q a' b')))) (some (.d (.tup (fcs.map factD)))) (some (.d (.tup [factD (ansA q), factD (ansB q)]))) (some (.d (.int 1))) (by simp only [sumI]; omega) (by simp only [sumI]; omega)
          (fun p hp => by
            rcases List.mem_cons.mp hp with e | hp
            · subst e; exact ⟨q3, t2.b q1, by simp; omega⟩
            · rcases List.mem_cons.mp hp with e | hp
              · subst e; exact ⟨q2, t2.a q1, by simp; omega⟩
              · exact rest' p hp) (by
            have e2 : (((b', fcs ++ [ansB q]) :: (a', fcs ++ [ansA q]) :: rs).all fun p => judge fs p.1 p.2) = (judge fs a' (fcs ++ [ansA q]) && judge fs b' (fcs ++ [ansB q]) && rs.all fun p => judge fs p.1 p.2) := by
              simp only [List.all_cons]
              rw [Bool.and_left_comm, Bool.and_assoc]
            rw [e2]; exact hk)
        have r2 : rngD 0 2 = [.int 0, .int 1] := rfl
        simp [T_is_pair, treeD, g0, en]
        refine ⟨q, a', b', ns, by simp [treeD], q1, gn, ?_⟩
        simp [s2, r2, loopP, sm1, sm2, smA, smB, smF]
        have it2 : ∀ (t : Tree) (f : List Fact) (x : Fact), itD (t, f ++ [x]) = .tup [treeD t, .tup (f.map factD ++ [factD x])] := fun t f x => by simp
        simp [treeD, it2] at g
        exact g
theorem pure_judge_split : ∀ ds k, ds.length = 2 → T_judge_split ds k → t_judge_split { nx := fun _ => k .non, rt := k } (startP 7 ds) := by
  rintro ds k hl ⟨t, fs, ns, rfl, h, ht, hn, hk⟩
  have sm0 : Sm 0 := by unfold Sm; omega
  have sm1 : Sm 1 := by unfold Sm; omega
  have sm2 : Sm 2 := by unfold Sm; omega
  have n3 := h.n3
  have g := judge_loop h (d0 := treeD t) (k := k) (nodes t + 1) [(t, [])] none none none none (by simp [sumI]) (by simpa [sumI] using hn) (fun p hp => by
    rw [List.mem_singleton.mp hp]; exact ⟨ht, .nil, by simp; omega⟩) (by simpa using hk)
  simp [t_judge_split, startP]
  refine ⟨fs, ns, 3, rfl, h, by omega, ?_⟩
  simp [sm0, sm1, sm2]
  have e : [(t, ([] : List Fact))].reverse.map itD = [D.tup [treeD t, D.tup []]] := rfl
  rw [e] at g
  exact ⟨nodes t + 1, g⟩
end K96
end

section
set_option Elab.async false
set_option linter.all false
set_option maxRecDepth 100000
set_option maxHeartbeats 2000000
namespace K96
open PySem PySem.Spec PyProof.Rows L2 PL
abbrev btD (p : Int × Tree) : D := .tup [.int p.1, treeD p.2]
@[reducible] def obD : Option (Int × Tree) → D
  | none => .non
  | some p => btD p
def bpick (bt : Stt → Int × Tree) (o : Option (Int × Tree)) (p : Prt) : Option (Int × Tree) :=
  match o with
  | none => some ((bt p.2.1).1 + (bt p.2.2).1, .spl p.1 (bt p.2.1).2 (bt p.2.2).2)
  | some q => if (bt p.2.1).1 + (bt p.2.2).1 < q.1 then some ((bt p.2.1).1 + (bt p.2.2).1, .spl p.1 (bt p.2.1).2 (bt p.2.2).2) else some q
def bestP (s : Stt) (ns : List Str) (mk : Int) (bt : Stt → Int × Tree) : Option (Int × Tree) := (parts s ns mk).foldl (bpick bt) none
/-- what partings wants of a state -/
structure StV (s : Stt) (ns : List Str) (mk : Int) : Prop where
  n4 : ns.length ≤ 4
  few : s.1.length ≤ 1000
  len : ∀ a ∈ s.1, a.length = ns.length
  b1 : -1000 ≤ s.2.1
  b2 : s.2.1 ≤ 1000
  b3 : -1000 ≤ s.2.2
  b4 : s.2.2 ≤ 1000
  b5 : -1000 ≤ mk
  b6 : mk ≤ 1000
theorem part_ok {s : Stt} {ns : List Str} {mk : Int} (h : StV s ns mk) {k : D → Prop} (hk : k (.lst ((parts s ns mk).map ptD))) : T_partings [stD s, .tup (ns.map D.str), .int mk] k := ⟨s, ns, mk, rfl, h.n4, h.few, h.len, h.b1, h.b2, h.b3, h.b4, h.b5, h.b6, hk⟩
theorem kok_st (s : Stt) : D.kok 8 (stD s) = true := by simp [List.all_eq_true]
theorem st_inj {s t : Stt} : (stD s = stD t) = (s = t) := propext ⟨fun h => by
  obtain ⟨a, b, c⟩ := s
  obtain ⟨a', b', c'⟩ := t
  simp only [D.tup.injEq, List.cons.injEq, D.int.injEq, and_true] at h
  obtain ⟨h1, h2, h3⟩ := h
  have : a = a' := by
    revert a'
    induction a with
    | nil => intro a' h; cases a' with | nil => rfl | cons _ _ => simp at h
    | cons x a ih =>
      intro a' h
      cases a' with
      | nil => simp at h
      | cons y a' =>
        simp at h
        rw [h.1, ih a' h.2]
  rw [this, h2, h3], fun h => by rw [h]⟩
def T_best_parting : FT := fun ds k => ∃ (s : Stt) (ns : List Str) (mk : Int) (ks vs : List D) (bt : Stt → Int × Tree), ds = [stD s, .tup (ns.map D.str), .int mk, .dic ks vs] ∧ StV s ns mk ∧
  (∀ p ∈ parts s ns mk, dLook ks vs (stD p.2.1) = some (btD (bt p.2.1)) ∧ dLook ks vs (stD p.2.2) = some (btD (bt p.2.2))) ∧ k (obD (bestP s ns mk bt))
def t_best_parting : TXS := (sSeq (sSet 4 (xC .non)) (sSeq (sFor (iX (xFn 3 T_partings (aCons (rVar 0) (aCons (rVar 1) (aCons (rVar 2) aNil))))) (gT [5, 6, 7]) (sSeq (sSet 8 (xBin addD (xIx (rOf (xIx (rVar 3) (xVar 6))) (xC (.int 0))) (xIx (rOf (xIx (rVar 3) (xVar 7))) (xC (.int 0))))) (sIf (tOr1 (tB1 (xBin isND (xVar 4) (xC .non))) (tB1 (xBin ltD (xVar 8) (xIx (rVar 4) (xC (.int 0)))))) (sSet 4 (xTup (aCons (rVar 8) (aCons (rOf (xTup (aCons (rOf (xC (.str ("split" : Str)))) (aCons (rVar 5) (aCons (rOf (xTup (aCons (rOf (xIx (rOf (xIx (rVar 3) (xVar 6))) (xC (.int 1)))) (aCons (rOf (xIx (rOf (xIx (rVar 3) (xVar 7))) (xC (.int 1)))) aNil)))) aNil))))) aNil)))) sNext))) (sRetV 4)))
theorem pure_best_parting : ∀ ds k, ds.length = 4 → T_best_parting ds k → t_best_parting { nx := fun _ => k .non, rt := k } (startP 9 ds) := by
  rintro ds k hl ⟨s, ns, mk, ks, vs, bt, rfl, h, hb, hk⟩
  have sm2 : Sm 2 := by unfold Sm; omega
  have sm3 : Sm 3 := by unfold Sm; omega
  simp only [t_best_parting, startP, s_sSeq, s_sSet, s_xC, List.map_cons, List.map_nil, List.length_cons, List.length_nil, List.replicate, List.cons_append, List.nil_append, List.set_cons_succ, List.set_cons_zero, s_sFor, s_iX, s_xFn, s_aCons, s_aNil, s_rVar, List.getElem?_cons_zero, List.getElem?_cons_succ, s_xP, PV.dat_d, true_and]
  refine part_ok h ⟨fun h => by simp at h, ?_⟩
  simp only [s_seqL]
  refine loopP_enc ptD (fun ps ρ => (∀ p ∈ ps, dLook ks vs (stD p.2.1) = some (btD (bt p.2.1)) ∧ dLook ks vs (stD p.2.2) = some (btD (bt p.2.2))) ∧ ∃ (o : Option (Int × Tree)) (a b c d : Option PV), k (obD (ps.foldl (bpick bt) o)) ∧ ρ = [some (.d (stD s)), some (.d (.tup (ns.map D.str))), some (.d (.int mk)), some (.d (.dic ks vs)), some (.d (obD o)), a, b, c, d]) (fun ρ q => ?_) (fun p ps ρ C hC q => ?_) _ _ ⟨hb, none, _, _, _, _, hk, rfl⟩
  · obtain ⟨_, o, a, b, c, d, h, rfl⟩ := q
    simp
    exact h
  · obtain ⟨hp, o, a, b, c, d, h, rfl⟩ := q
    obtain ⟨l1, l2⟩ := hp p (List.mem_cons_self ..)
    rw [List.foldl_cons] at h
    have k1 := kok_st p.2.1
    have k2 := kok_st p.2.2
    have g := fun o' w => hC [some (.d (stD s)), some (.d (.tup (ns.map D.str))), some (.d (.int mk)), some (.d (.dic ks vs)), some (.d (obD o')), some (.d (queD p.1)), some (.d (stD p.2.1)), some (.d (stD p.2.2)), some (.d (.int ((bt p.2.1).1 + (bt p.2.2).1)))] ⟨fun z hz => hp z (List.mem_cons_of_mem _ hz), o', _, _, _, _, w, rfl⟩
    cases o with
    | none =>
      have g := g (some ((bt p.2.1).1 + (bt p.2.2).1, .spl p.1 (bt p.2.1).2 (bt p.2.2).2)) h
      simp only [s_gT, s_gs1, s_gs0, List.length_cons, List.length_nil, List.set_cons_succ, List.set_cons_zero, true_and, s_sSeq, s_sSet, s_xBin, s_xIx, s_rOf, s_rVar, s_xVar, s_xC, List.getElem?_cons_zero, List.getElem?_cons_succ, s_xP, s_xD, PV.dat_d, s_ixDic, k1, k2, l1, l2, s_ixT, atI_zero, atI_one, s_addI, s_sIf, s_tOr1, s_tB1, s_isND, s_isB, decide_true, if_true, s_xTup, s_aCons, s_aNil, s_withD, s_allD0, s_allD1, sm2, sm3]
      exact g
    | some q =>
      by_cases c : (bt p.2.1).1 + (bt p.2.2).1 < q.1
      · have h' := h
        simp only [bpick, c, if_true] at h'
        have g := g (some ((bt p.2.1).1 + (bt p.2.2).1, .spl p.1 (bt p.2.1).2 (bt p.2.2).2)) h'
        have nn : decide (btD q = D.non) = false := by simp
        simp only [s_gT, s_gs1, s_gs0, List.length_cons, List.length_nil, List.set_cons_succ, List.set_cons_zero, true_and, s_sSeq, s_sSet, s_xBin, s_xIx, s_rOf, s_rVar, s_xVar, s_xC, List.getElem?_cons_zero, List.getElem?_cons_succ, s_xP, s_xD, PV.dat_d, s_ixDic, k1, k2, l1, l2, s_ixT, atI_zero, atI_one, s_addI, s_sIf, s_tOr1, s_tB1, s_isND, s_isB, nn, if_false, Bool.false_eq_true, s_ltI, c, decide_true, if_true, s_xTup, s_aCons, s_aNil, s_withD, s_allD0, s_allD1, sm2, sm3]
        exact g
      · have h' := h
        simp only [bpick, c, if_false] at h'
        have g := g (some q) h'
        have nn : decide (btD q = D.non) = false := by simp
        simp only [s_gT, s_gs1, s_gs0, List.length_cons, List.length_nil, List.set_cons_succ, List.set_cons_zero, true_and, s_sSeq, s_sSet, s_xBin, s_xIx, s_rOf, s_rVar, s_xVar, s_xC, List.getElem?_cons_zero, List.getElem?_cons_succ, s_xP, s_xD, PV.dat_d, s_ixDic, k1, k2, l1, l2, s_ixT, atI_zero, atI_one, s_addI, s_sIf, s_tOr1, s_tB1, s_isND, s_isB, nn, if_false, Bool.false_eq_true, s_ltI, c, decide_false, s_sNext]
        exact g
abbrev push (ps : List Prt) : List Stt := (ps.flatMap fun p => [p.2.1, p.2.2]).reverse
def allGo (fs : List Face) (ns : List Str) (mk : Int) : Nat → List Stt → List Stt → Option (List Stt)
  | 0, _, _ => none
  | _ + 1, [], found => some found
  | n + 1, s :: w, found => if s ∈ found then allGo fs ns mk n w found else if ender fs s = -1 then allGo fs ns mk n (push (parts s ns mk) ++ w) (found ++ [s]) else allGo fs ns mk n w (found ++ [s])
theorem st_mem {s : Stt} {l : List Stt} : (stD s ∈ l.map stD) = (s ∈ l) := mem_inj (fun _ _ => st_inj)
theorem dLook_map {f : Stt → D} {s : Stt} : ∀ {l : List Stt}, s ∈ l → dLook (l.map stD) (l.map f) (stD s) = some (f s)
  | [], h => by cases h
  | t :: l, h => by
    rw [List.map_cons, List.map_cons]
    unfold dLook
    by_cases e : t = s
    · subst e; rw [if_pos rfl]
    · rw [if_neg (by rw [st_inj]; exact e)]
      exact dLook_map ((List.mem_cons.mp h).resolve_left fun q => e q.symm)
/-- a kind of states that partings do not leave, few enough -/
structure Closed (ns : List Str) (mk : Int) (Good : Stt → Prop) : Prop where
  v : ∀ s, Good s → StV s ns mk
  kids : ∀ s, Good s → ∀ p ∈ parts s ns mk, Good p.2.1 ∧ Good p.2.2
  few : ∀ l : List Stt, l.Nodup → (∀ s ∈ l, Good s) → l.length ≤ 2000
  ps : ∀ s, Good s → (parts s ns mk).length ≤ 20
def T_all_states : FT := fun ds k => ∃ (ns : List Str) (fs : List Face) (mk : Int) (N : Nat) (st : List Stt) (Good : Stt → Prop), ds = [.tup (ns.map D.str), facesD fs, .int mk] ∧ Closed ns mk Good ∧ Good (arrs ns.length, 1, 0) ∧ fs.length ≤ 1000 ∧ (∀ f ∈ fs, f.1.length ≤ 4) ∧
  allGo fs ns mk N [(arrs ns.length, 1, 0)] [] = some st ∧ k (.dic (st.map stD) (st.map fun s => .int (ender fs s)))
def t_all_states : TXS := (sSeq (sNewD 3) (sSeq (sSetF 4 (fLst (aCons (rOf (xFn 1 T_start_state (aCons (rOf (xCall lenD (aCons (rVar 0) aNil))) aNil))) aNil))) (sSeq (sWhile (tTr (rVar 4)) (sSeq (sPop 4 (gN 5)) (sIf (tB1 (xIn (xVar 5) (rVar 3) (inD true))) (sSeq (sPut 3 (xVar 5) (xFn 2 T_ender (aCons (rVar 1) (aCons (rVar 5) aNil)))) (sIf (tB1 (xBin eqD (xIx (rVar 3) (xVar 5)) (xNeg (xC (.int 1))))) (sFor (iX (xFn 3 T_partings (aCons (rVar 5) (aCons (rVar 0) (aCons (rVar 2) aNil))))) (gT [6, 7, 8]) (sSeq (sApp 4 (xVar 7)) (sApp 4 (xVar 8)))) sNext)) sNext))) (sRetV 3))))
abbrev AC : TXT := (tTr (rVar 4))
abbrev AB : TXS := (sSeq (sPop 4 (gN 5)) (sIf (tB1 (xIn (xVar 5) (rVar 3) (inD true))) (sSeq (sPut 3 (xVar 5) (xFn 2 T_ender (aCons (rVar 1) (aCons (rVar 5) aNil)))) (sIf (tB1 (xBin eqD (xIx (rVar 3) (xVar 5)) (xNeg (xC (.int 1))))) (sFor (iX (xFn 3 T_partings (aCons (rVar 5) (aCons (rVar 0) (aCons (rVar 2) aNil))))) (gT [6, 7, 8]) (sSeq (sApp 4 (xVar 7)) (sApp 4 (xVar 8)))) sNext)) sNext))
theorem all_loop {fs : List Face} {ns : List Str} {mk : Int} {Good : Stt → Prop} (cl : Closed ns mk Good) (fl : fs.length ≤ 1000) (f4 : ∀ f ∈ fs, f.1.length ≤ 4) {k : D → Prop} : ∀ (N : Nat) (w found st : List Stt) (a b c d : Option PV), allGo fs ns mk N w found = some st → (∀ s ∈ w, Good s) → (∀ s ∈ found, Good s) → found.Nodup → w.length ≤ 1 + 40 * found.length →
    k (.dic (st.map stD) (st.map fun s => .int (ender fs s))) →
    whileP AC AB { nx := sRetV 3 { nx := fun _ => k .non, rt := k }, rt := k } N [some (.d (.tup (ns.map D.str))), some (.d (facesD fs)), some (.d (.int mk)), some (.odic (found.map stD) (found.map fun s => .int (ender fs s))), some (.own (w.reverse.map stD)), a, b, c, d] := by
  intro N
  induction N with
  | zero => intro w found st a b c d e; cases e
  | succ N ih =>
    intro w found st a b c d e gw gf nd hw hk
    rw [whileP]
    cases w with
    | nil =>
      cases e
      simp at hk ⊢
      exact hk
    | cons s w =>
      rw [allGo] at e
      have gs := gw s (List.mem_cons_self ..)
      have gw' : ∀ t ∈ w, Good t := fun t ht => gw t (List.mem_cons_of_mem _ ht)
      rw [List.length_cons] at hw
      have fb := cl.few found nd gf
      have sv := cl.v s gs
      have ko := kok_st s
      have rv : (s :: w).reverse.map stD = w.reverse.map stD ++ [stD s] := by simp
      rw [rv]
      have it : isTupD (stD s) = true := rfl
      by_cases c1 : s ∈ found
      · rw [if_pos c1] at e
        have g := ih w found st (some (.d (stD s))) b c d e gw' gf nd (by omega) hk
        have m : decide (stD s ∈ found.map stD) = true := decide_eq_true (by rw [st_mem]; exact c1)
        have ne : (!(w.reverse.map stD ++ [stD s]).isEmpty) = true := by simp
        simp only [s_tTr, s_rVar, List.getElem?_cons_zero, List.getElem?_cons_succ, s_xP, PV.dat_own, s_truL, ne, if_true, s_sSeq, s_sPop, s_ownOf, s_popOf, s_gN, List.set_cons_succ, List.set_cons_zero, s_sIf, s_tB1, s_xIn, s_xVar, s_xD, PV.dat_odic, s_inDic, ko, true_and, m, Bool.not_true, s_isB, Bool.false_eq_true, if_false, s_sNext]
        exact g
      · rw [if_neg c1] at e
        have m : decide (stD s ∈ found.map stD) = false := decide_eq_false (by rw [st_mem]; exact c1)
        have nm : stD s ∉ found.map stD := by rw [st_mem]; exact c1
        have ne : (!(w.reverse.map stD ++ [stD s]).isEmpty) = true := by simp
        have smF : Sm ((found.map stD).length + 1) := by rw [List.length_map]; unfold Sm; omega
        have nd' : (found ++ [s]).Nodup := by
          rw [List.nodup_append]
          refine ⟨nd, by simp, fun x hx y hy e => ?_⟩
          rw [List.mem_singleton.mp hy] at e
          subst e
          exact c1 hx
        have gf' : ∀ t ∈ found ++ [s], Good t := fun t ht => by
          rcases List.mem_append.mp ht with q | q
          · exact gf t q
          · rw [List.mem_singleton.mp q]; exact gs
        have ks : found.map stD ++ [stD s] = (found ++ [s]).map stD := by simp
        have vs : (found.map fun s => D.int (ender fs s)) ++ [D.int (ender fs s)] = (found ++ [s]).map fun s => D.int (ender fs s) := by simp
        have lk : dLook ((found ++ [s]).map stD) ((found ++ [s]).map fun s => D.int (ender fs s)) (stD s) = some (.int (ender fs s)) := dLook_map (by simp)
        simp only [s_tTr, s_rVar, List.getElem?_cons_zero, List.getElem?_cons_succ, s_xP, PV.dat_own, s_truL, ne, if_true, s_sSeq, s_sPop, s_ownOf, s_popOf, s_gN, List.set_cons_succ, List.set_cons_zero, s_sIf, s_tB1, s_xIn, s_xVar, s_xD, PV.dat_odic, s_inDic, ko, true_and, m, Bool.not_false, s_isB, s_sPut, s_xFn, s_aCons, s_aNil, List.length_cons, List.length_nil, List.map_cons, List.map_nil, PV.dat_d]
        refine ⟨fs, s, rfl, fl, f4, fun h => by simp at h, ?_⟩
        simp only [s_odicOf, ko, it, nm, not_false_eq_true, smF, true_and, s_xBin, s_xIx, s_rVar, s_xVar, List.getElem?_cons_zero, List.getElem?_cons_succ, s_xP, s_xD, PV.dat_odic, s_ixDic, ks, vs, lk, s_xNeg, s_xC, s_negI, s_eqD, s_clI, D.int.injEq, s_isB]
        by_cases c2 : ender fs s = -1
        · rw [if_pos c2] at e
          simp only [c2, decide_true, if_true, s_sFor, s_iX, s_xFn, s_aCons, s_aNil, s_rVar, List.getElem?_cons_zero, List.getElem?_cons_succ, s_xP, List.length_cons, List.length_nil, List.map_cons, List.map_nil, PV.dat_d, true_and]
          refine part_ok sv ⟨fun h => by simp at h, ?_⟩
          simp only [s_seqL]
          have kids := cl.kids s gs
          have pl := cl.ps s gs
          refine loopP_enc ptD (fun ps ρ => ∃ (dn : List Prt) (a b c : Option PV), dn ++ ps = parts s ns mk ∧ ρ = [some (.d (.tup (ns.map D.str))), some (.d (facesD fs)), some (.d (.int mk)), some (.odic ((found ++ [s]).map stD) ((found ++ [s]).map fun s => .int (ender fs s))), some (.own ((push dn ++ w).reverse.map stD)), some (.d (stD s)), a, b, c]) (fun ρ q => ?_) (fun p ps ρ C hC q => ?_) _ _ ⟨[], _, _, _, rfl, rfl⟩
          · obtain ⟨dn, a, b, c, ed, rfl⟩ := q
            rw [List.append_nil] at ed
            subst ed
            refine ih _ _ st _ _ _ _ e (fun t ht => ?_) gf' nd' ?_ hk
            · rcases List.mem_append.mp ht with q | q
              · rw [List.mem_reverse] at q
                obtain ⟨p, hp, q⟩ := List.mem_flatMap.mp q
                rcases List.mem_cons.mp q with q | q
                · rw [q]; exact (kids p hp).1
                · rw [List.mem_singleton.mp q]; exact (kids p hp).2
              · exact gw' t q
            · have := flat_len (fun p : Prt => [p.2.1, p.2.2]) 2 (parts s ns mk) (fun x _ => by simp)
              rw [List.length_append, List.length_reverse, List.length_append]
              simp only [List.length_cons, List.length_nil]
              omega
          · obtain ⟨dn, a, b, c, ed, rfl⟩ := q
            have dl : dn.length ≤ 20 := by
              have := congrArg List.length ed
              rw [List.length_append] at this
              omega
            have pdl := flat_len (fun p : Prt => [p.2.1, p.2.2]) 2 dn (fun x _ => by simp)
            have lw : ((push dn ++ w).reverse.map stD).length ≤ 90000 := by simp only [List.length_map, List.length_reverse, List.length_append]; omega
            have sA : Sm (((push dn ++ w).reverse.map stD).length + 1) := by unfold Sm; omega
            have sB : Sm (((push dn ++ w).reverse.map stD ++ [stD p.2.1]).length + 1) := by rw [List.length_append]; unfold Sm; simp only [List.length_cons, List.length_nil]; omega
            have g := hC [some (.d (.tup (ns.map D.str))), some (.d (facesD fs)), some (.d (.int mk)), some (.odic ((found ++ [s]).map stD) ((found ++ [s]).map fun s => .int (ender fs s))), some (.own ((push (dn ++ [p]) ++ w).reverse.map stD)), some (.d (stD s)), some (.d (queD p.1)), some (.d (stD p.2.1)), some (.d (stD p.2.2))] ⟨dn ++ [p], _, _, _, by simpa using ed, rfl⟩
            have pe : (push (dn ++ [p]) ++ w).reverse.map stD = ((push dn ++ w).reverse.map stD ++ [stD p.2.1]) ++ [stD p.2.2] := by simp [push]
            rw [pe] at g
            simp only [s_gT, s_gs1, s_gs0, List.length_cons, List.length_nil, true_and, List.set_cons_succ, List.set_cons_zero, s_sSeq, s_sApp, List.getElem?_cons_zero, List.getElem?_cons_succ, s_ownOf, s_xVar, s_xD, sA, sB]
            exact g
        · rw [if_neg c2] at e
          have g := ih w (found ++ [s]) st (some (.d (stD s))) b c d e gw' gf' nd' (by rw [List.length_append]; simp only [List.length_cons, List.length_nil]; omega) hk
          simp only [c2, decide_false, Bool.false_eq_true, if_false, s_sNext]
          exact g
theorem pure_all_states : ∀ ds k, ds.length = 3 → T_all_states ds k → t_all_states { nx := fun _ => k .non, rt := k } (startP 9 ds) := by
  rintro ds k hl ⟨ns, fs, mk, N, st, Good, rfl, cl, g0, fl, f4, e, hk⟩
  have sm1 : Sm 1 := by unfold Sm; omega
  have n4 := (cl.v _ g0).n4
  have g := all_loop cl fl f4 (k := k) N [(arrs ns.length, 1, 0)] [] st none none none none e (fun s hs => by rw [List.mem_singleton.mp hs]; exact g0) (fun s hs => by cases hs) List.nodup_nil (by simp) hk
  simp [t_all_states, startP]
  refine ⟨ns.length, rfl, n4, ?_⟩
  simp [sm1]
  exact ⟨N, g⟩
end K96
end

section
set_option Elab.async false
set_option linter.all false
set_option maxRecDepth 100000
set_option maxHeartbeats 2000000
namespace K96
open PySem PySem.Spec PyProof.Rows L2 PL
def T__law_arrangements : FT := fun ds k => ∃ n : Nat, ds = [.int n] ∧ n ≤ 4 ∧ k (.lst ((arrs n).map arrD))
def t__law_arrangements : TXS := (sSeq (sSetF 1 (fLst (aCons (rOf (xTup aNil)) aNil))) (sSeq (sFor (iR1 (xVar 0)) (gN 2) (sSeq (sSetF 3 (fLst aNil)) (sSeq (sFor (iV 1) (gN 4) (sExt 3 (xOfF (fLc (jR1 (xBin addD (xLenSet (rVar 4)) (xC (.int 1)))) (.name 5) tYesP (xBin addD (xVar 4) (xTup (aCons (rVar 5) aNil))) [5])))) (sMove 1 3)))) (sRetV 1)))
theorem arrs_ddp : ∀ n, n ≤ 4 → ∀ a ∈ arrs n, ((ddp a).length : Int) = ctot a := by decide +kernel
theorem pure__law_arrangements : ∀ ds k, ds.length = 1 → T__law_arrangements ds k → t__law_arrangements { nx := fun _ => k .non, rt := k } (startP 6 ds) := by
  rintro ds k hl ⟨n, rfl, hn, hk⟩
  have s2 : Sm2 0 (n : Int) := ⟨by omega, by omega, by omega, by omega⟩
  have sm1 : Sm 1 := by unfold Sm; omega
  have sm0 : Sm 0 := by unfold Sm; omega
  simp [t__law_arrangements, startP, s2, sm1, sm0]
  rw [rng_iota]
  refine loopP_enc D.int (fun js ρ => ∃ m, m + js.length = n ∧ ∃ y z u, ρ = [some (.d (.int n)), some (.own ((arrs m).map arrD)), y, z, u, none]) (fun ρ q => ?_) (fun d ds ρ C hC q => ?_) _ _ ⟨0, by simp [iota], _, _, _, rfl⟩
  · obtain ⟨m, e, y, z, u, rfl⟩ := q
    have : m = n := by simpa using e
    subst this
    simpa using hk
  · obtain ⟨m, e, y, z, u, rfl⟩ := q
    rw [List.length_cons] at e
    have q := fun u => hC [some (.d (.int n)), some (.own ((arrs (m + 1)).map arrD)), some (.d (.int d)), none, u, none] ⟨m + 1, by omega, _, _, _, rfl⟩
    simp [sm0]
    refine loopP_enc arrD (fun rs ρ => ∃ dn u, dn ++ rs = arrs m ∧ ρ = [some (.d (.int n)), some (.d (.lst ((arrs m).map arrD))), some (.d (.int d)), some (.own ((dn.flatMap fun r => (iota (ctot r + 1)).map fun i => r ++ [i]).map arrD)), u, none]) (fun ρ q2 => ?_) (fun r rs ρ C2 hC2 q2 => ?_) _ _ ⟨[], _, rfl, rfl⟩
    · obtain ⟨dn, u, e2, rfl⟩ := q2
      rw [List.append_nil] at e2
      subst e2
      simp
      have := q u
      simpa [arrs] using this
    · obtain ⟨dn, u, e2, rfl⟩ := q2
      have hr : r ∈ arrs m := by rw [← e2]; simp
      obtain ⟨b1, b2⟩ := arrs_ctot m (by omega) r hr
      have al := arrs_each m (by omega) r hr
      have dd := arrs_ddp m (by omega) r hr
      have s3 : Sm2 0 (((ddp r).length : Int) + 1) := ⟨by omega, by omega, by omega, by omega⟩
      have rl : r.length ≤ 1000 := by omega
      have smr : Sm (r.length + 1) := by unfold Sm; omega
      have lenb : (dn.flatMap fun r => (iota (ctot r + 1)).map fun i => r ++ [i]).length + (iota (ctot r + 1)).length ≤ 15 := by
        have h1 := arrs_len (m + 1) (by omega)
        have h2 : (arrs (m + 1)).length = (dn.flatMap fun r => (iota (ctot r + 1)).map fun i => r ++ [i]).length + ((iota (ctot r + 1)).length + (rs.flatMap fun r => (iota (ctot r + 1)).map fun i => r ++ [i]).length) := by
          simp only [arrs, ← e2, List.flatMap_append, List.flatMap_cons, List.length_append, List.length_map]
        omega
      have g := hC2 [some (.d (.int n)), some (.d (.lst ((arrs m).map arrD))), some (.d (.int d)), some (.own (((dn ++ [r]).flatMap fun r => (iota (ctot r + 1)).map fun i => r ++ [i]).map arrD)), some (.d (arrD r)), none] ⟨dn ++ [r], _, by simpa using e2, rfl⟩
      simp only [s_gN, s_sExt, s_ownOf, List.set_cons_succ, List.set_cons_zero, List.getElem?_cons_zero, List.getElem?_cons_succ, s_xOfF, s_fLc, s_jR1, s_xBin, s_xLenSet, s_rVar, s_xP, PV.dat_d, intSeq_tup, s_xC, s_addI, s_wipe1, s_wipe0]
      refine ⟨rl, s3, ?_⟩
      rw [dd, rng_iota]
      refine compP_map D.int (fun i => arrD (r ++ [i])) _ (by simp [iota]; omega) (fun i hi C hC' => ?_) ?_
      · have h5 : C (.tup ((r ++ [i]).map D.int)) := hC'
        simp [sm1, smr]
        simpa using h5
      · simp only [s_seqL]
        refine ⟨by simp only [List.length_map]; unfold Sm; omega, ?_⟩
        rw [List.flatMap_append, List.map_append] at g
        simp only [List.flatMap_cons, List.flatMap_nil, List.append_nil, List.map_map] at g
        simpa [Function.comp_def] using g
def T__law_has : FT := T_has
def t__law_has : TXS := (sRet (xOr (xIn (xVar 1) (rOf (xIx (rVar 0) (xC (.int 0)))) (inD false)) (xChain ltD leD (xC (.int 0)) (xIx (rVar 0) (xC (.int 1))) (xVar 1))))
theorem pure__law_has : ∀ ds k, ds.length = 2 → T__law_has ds k → t__law_has { nx := fun _ => k .non, rt := k } (startP 2 ds) := by
  rintro ds k hl ⟨r, s, rfl, hk⟩
  unfold has at hk
  simp [t__law_has, startP]
  by_cases c1 : s ∈ r.1 <;> by_cases c2 : 0 < r.2 <;> simp [c1, c2] at hk ⊢ <;> exact hk
def T__law_row_of : FT := fun ds k => ∃ (ns : List Int) (ray : Int), ds = [.lst (ns.map D.int), .int ray] ∧ ns.length < 64 ∧ 0 ≤ ray ∧ k (rowD (tidy ns ray))
def t__law_row_of : TXS := (sSeq (sSetF 2 (fSortedSet (rVar 0))) (sSeq (sMove 3 1) (sSeq (sIf (tB1 (xBin gtD (xVar 3) (xC (.int 0)))) (sSeq (sSetF 2 (fLc (jV 2) (.name 5) (tB1 (xBin ltD (xVar 5) (xVar 3))) (xVar 5) [5])) (sFor (iR1 (xCall lenD (aCons (rVar 2) aNil))) (gN 4) (sIf (tAnd1 (tTr (rVar 2)) (tB1 (xBin eqD (xIx (rVar 2) (xNeg (xC (.int 1)))) (xBin subD (xVar 3) (xC (.int 1)))))) (sSeq (sSetF 2 (fInit (rVar 2))) (sSet 3 (xBin subD (xVar 3) (xC (.int 1))))) sNext))) sNext) (sRet (xTup (aCons (rOf (xCall tupleD (aCons (rVar 2) aNil))) (aCons (rVar 3) aNil)))))))
theorem pure__law_row_of : ∀ ds k, ds.length = 2 → T__law_row_of ds k → t__law_row_of { nx := fun _ => k .non, rt := k } (startP 6 ds) := by
  rintro ds k hl ⟨ns, ray, rfl, hn, h0, hk⟩
  have sm2 : Sm 2 := by unfold Sm; omega
  have ls := srt_len ns
  simp [t__law_row_of, startP, hn]
  by_cases hr : ray = 0
  · subst hr
    simp [sm2]
    simpa [tidy] using hk
  · have hp : 0 < ray := by omega
    simp [hp]
    refine compP_filt (fun x => decide (x < ray)) _ (by omega) (fun x hx C hC => ?_) ?_
    · by_cases c : x < ray <;> simp [c] at hC ⊢ <;> exact hC
    · have hk : k (rowD (trimR ((srt ns).filter fun x => decide (x < ray)).reverse ray)) := by simpa [tidy, hr] using hk
      have fl := List.length_filter_le (fun x => decide (x < ray)) (srt ns)
      generalize hz : ((srt ns).filter fun x => decide (x < ray)).reverse = zs at hk
      have ez : ((srt ns).filter fun x => decide (x < ray)) = zs.reverse := by rw [← hz, List.reverse_reverse]
      rw [ez] at fl ⊢
      rw [List.length_reverse] at fl
      have s2 : Sm2 0 (zs.length : Int) := ⟨by omega, by omega, by omega, by omega⟩
      simp only [s_sFor, s_iR1, s_xCall, s_aCons, s_aNil, s_rVar, List.getElem?_cons_zero, List.getElem?_cons_succ, s_xP, List.map_cons, List.map_nil, PV.dat_own, s_lenL, List.length_map, List.length_reverse]
      refine ⟨s2, ?_⟩
      rw [rng_iota]
      refine loopP_enc D.int (fun ts ρ => ∃ (rs : List Int) (top : Int) (y : Option PV), trimR rs top = trimR zs ray ∧ (rs.length ≤ ts.length ∨ trimR rs top = (rs.reverse, top)) ∧ ρ = [some (.d (.lst (ns.map D.int))), some (.d (.int ray)), some (.own (rs.reverse.map D.int)), some (.d (.int top)), y, none]) (fun ρ q => ?_) (fun t ts ρ C hC q => ?_) _ _ ⟨zs, ray, _, rfl, .inl (by simp [iota]), rfl⟩
      · obtain ⟨rs, top, y, e1, e2, rfl⟩ := q
        have e3 : trimR rs top = (rs.reverse, top) := by
          rcases e2 with e2 | e2
          · cases rs with
            | nil => rfl
            | cons _ _ => simp at e2
          · exact e2
        rw [e3] at e1
        rw [← e1] at hk
        have hk' : k (.tup [.tup (rs.reverse.map D.int), .int top]) := hk
        simp [sm2]
        simpa using hk'
      · obtain ⟨rs, top, y, e1, e2, rfl⟩ := q
        cases rs with
        | nil =>
          have g := hC [some (.d (.lst (ns.map D.int))), some (.d (.int ray)), some (.own (([] : List Int).reverse.map D.int)), some (.d (.int top)), some (.d (.int t)), none] ⟨[], top, _, e1, .inl (Nat.zero_le _), rfl⟩
          simp at g ⊢
          exact g
        | cons r rs =>
          by_cases c : r = top - 1
          · have g := hC [some (.d (.lst (ns.map D.int))), some (.d (.int ray)), some (.own (rs.reverse.map D.int)), some (.d (.int (top - 1))), some (.d (.int t)), none] ⟨rs, top - 1, _, by rw [← e1, trimR, if_pos c], by
              rcases e2 with e2 | e2
              · left; simp at e2; omega
              · exfalso
                rw [trimR, if_pos c] at e2
                have := congrArg (fun z => z.1.length) e2
                obtain ⟨n, en⟩ := trim_drop rs (top - 1)
                simp [en] at this
                omega, rfl⟩
            simp [c] at g ⊢
            simpa using g
          · have g := hC [some (.d (.lst (ns.map D.int))), some (.d (.int ray)), some (.own ((r :: rs).reverse.map D.int)), some (.d (.int top)), some (.d (.int t)), none] ⟨r :: rs, top, _, e1, .inr (by rw [trimR, if_neg c]), rfl⟩
            simp [c] at g ⊢
            exact g
end K96
end

section
set_option Elab.async false
set_option linter.all false
set_option maxRecDepth 100000
set_option maxHeartbeats 2000000
namespace K96
open PySem PySem.Spec PyProof.Rows L2 PL
def lawMeetR (a b : Row) : Row := tidy ((a.1 ++ b.1).filter fun s => has a s && has b s) (max a.2 b.2 * min 1 (min a.2 b.2))
def T__law_meet_row : FT := fun ds k => ∃ a b : Row, ds = [rowD a, rowD b] ∧ a.1.length + b.1.length < 64 ∧ 0 ≤ a.2 ∧ 0 ≤ b.2 ∧ a.2 ≤ 1000 ∧ b.2 ≤ 1000 ∧ k (rowD (lawMeetR a b))
def t__law_meet_row : TXS := (sSeq (sSetF 2 (fLc (jX (xBin addD (xIx (rVar 0) (xC (.int 0))) (xIx (rVar 1) (xC (.int 0))))) (.name 3) (tAnd1 (tB1 (xFn 2 T__law_has (aCons (rVar 0) (aCons (rVar 3) aNil)))) (tB1 (xFn 2 T__law_has (aCons (rVar 1) (aCons (rVar 3) aNil))))) (xVar 3) [3])) (sRet (xFn 2 T__law_row_of (aCons (rVar 2) (aCons (rOf (xBin mulD (xCall maxD2 (aCons (rOf (xIx (rVar 0) (xC (.int 1)))) (aCons (rOf (xIx (rVar 1) (xC (.int 1)))) aNil))) (xCall minD3 (aCons (rOf (xC (.int 1))) (aCons (rOf (xIx (rVar 0) (xC (.int 1)))) (aCons (rOf (xIx (rVar 1) (xC (.int 1)))) aNil)))))) aNil)))))
theorem pure__law_meet_row : ∀ ds k, ds.length = 2 → T__law_meet_row ds k → t__law_meet_row { nx := fun _ => k .non, rt := k } (startP 4 ds) := by
  rintro ds k hl ⟨a, b, rfl, hn, a0, b0, a1, b1, hk⟩
  have sm : Sm (a.1.length + b.1.length) := by unfold Sm; omega
  have cm : CMul (max a.2 b.2) (min 1 (min a.2 b.2)) := .inl ⟨by omega, by omega⟩
  simp [t__law_meet_row, startP, sm]
  rw [← List.map_append]
  refine compP_filt (fun s => has a s && has b s) _ (by simp; omega) (fun x hx C hC => ?_) ?_
  · simp only [s_ctN, s_gN, s_tAnd1, s_tB1, s_xFn, s_aCons, s_aNil, s_rVar, s_xVar, List.set_cons_succ, List.set_cons_zero, List.getElem?_cons_zero, List.getElem?_cons_succ, s_xP, s_xD, List.length_cons, List.length_nil, List.map_cons, List.map_nil, PV.dat_d, true_and]
    refine ⟨a, x, rfl, fun h => by simp at h, ?_⟩
    simp only [s_isB]
    by_cases c1 : has a x = true
    · simp only [c1, if_true]
      refine ⟨b, x, rfl, fun h => by simp at h, ?_⟩
      simp only [s_isB]
      by_cases c2 : has b x = true <;> simp [c1, c2] at hC ⊢ <;> exact hC
    · simp [c1] at hC ⊢; exact hC
  · have fl := List.length_filter_le (fun s => has a s && has b s) (a.1 ++ b.1)
    rw [List.length_append] at fl
    have ray0 : 0 ≤ max a.2 b.2 * min 1 (min a.2 b.2) := Int.mul_nonneg (by omega) (by omega)
    simp [cm]
    exact ⟨(a.1 ++ b.1).filter fun s => has a s && has b s, _, by simp, by omega, ray0, by simp [List.all_eq_true], hk⟩
def lawMeetF (f g : Face) : Face := (f.1, List.zipWith lawMeetR f.2 g.2)
def RayOk (f : Face) : Prop := ∀ r ∈ f.2, 0 ≤ r.2 ∧ r.2 ≤ 1000
def T__law_meet : FT := fun ds k => ∃ f g : Face, ds = [faceD f, faceD g] ∧ FSml f ∧ FSml g ∧ RayOk f ∧ RayOk g ∧ f.2.length = g.2.length ∧ f.2.length ≤ 1000 ∧ k (faceD (lawMeetF f g))
def t__law_meet : TXS := (sRet (xTup (aCons (rOf (xIx (rVar 0) (xC (.int 0)))) (aCons (rOf (xCall tupleD (aCons (rOf (xOfF (fLc (jR1 (xCall lenD (aCons (rOf (xIx (rVar 0) (xC (.int 1)))) aNil))) (.name 2) tYesP (xFn 2 T__law_meet_row (aCons (rOf (xIx (rOf (xIx (rVar 0) (xC (.int 1)))) (xVar 2))) (aCons (rOf (xIx (rOf (xIx (rVar 1) (xC (.int 1)))) (xVar 2))) aNil))) [2]))) aNil))) aNil))))
theorem zw_iota {f : Row → Row → Row} : ∀ a b : List Row, a.length = b.length → (iota a.length).map (fun i => f (a.getD i.toNat ([], 0)) (b.getD i.toNat ([], 0))) = List.zipWith f a b := fun a b h => by
  apply List.ext_getElem
  · simp [iota, h]
  · intro i h1 h2
    simp [iota] at h1 h2 ⊢
    have h3 : i < b.length := by omega
    simp [h1, h3]
theorem pure__law_meet : ∀ ds k, ds.length = 2 → T__law_meet ds k → t__law_meet { nx := fun _ => k .non, rt := k } (startP 3 ds) := by
  rintro ds k hl ⟨f, g, rfl, hf, hg, rf, rg, h1, h2, hk⟩
  have sm2 : Sm 2 := by unfold Sm; omega
  have s2 : Sm2 0 (f.2.length : Int) := ⟨by omega, by omega, by omega, by omega⟩
  simp [t__law_meet, startP, sm2, s2]
  rw [rng_iota]
  refine compP_map D.int (fun i => rowD (lawMeetR (f.2.getD i.toNat ([], 0)) (g.2.getD i.toNat ([], 0)))) _ (by simp [iota]; omega) (fun i hi C hC => ?_) ?_
  · obtain ⟨j, rfl, hj, ej⟩ := atI_iota (a := f.2) hi (by omega)
    have hb : j < g.2.length := by omega
    simp [hj, hb] at hC ⊢
    obtain ⟨q1, q2⟩ := rf _ (List.getElem_mem hj)
    obtain ⟨q3, q4⟩ := rg _ (List.getElem_mem hb)
    have l1 := (hf _ (List.getElem_mem hj)).len
    have l2 := (hg _ (List.getElem_mem hb)).len
    exact ⟨f.2[j], g.2[j], rfl, by omega, q1, q3, q2, q4, hC⟩
  · have e : (iota f.2.length).map (fun i => rowD (lawMeetR (f.2.getD i.toNat ([], 0)) (g.2.getD i.toNat ([], 0)))) = (List.zipWith lawMeetR f.2 g.2).map rowD := by
      rw [← zw_iota f.2 g.2 h1, List.map_map]; rfl
    rw [e]
    have hk' : k (.tup [.tup (f.1.map D.str), .tup ((List.zipWith lawMeetR f.2 g.2).map rowD)]) := hk
    simpa using hk'
def T__law_no_cell : FT := fun ds k => ∃ f : Face, ds = [faceD f] ∧ f.2.length ≤ 1000 ∧ k (.bl (noC f))
def t__law_no_cell : TXS := (sRet (xNot (rOf (xOfF (fLc (jX (xIx (rVar 0) (xC (.int 1)))) (.name 1) (tB1 (xBin neD (xVar 1) (xTup (aCons (rOf (xTup aNil)) (aCons (rOf (xC (.int 0))) aNil))))) (xVar 1) [1])))))
theorem pure__law_no_cell : ∀ ds k, ds.length = 1 → T__law_no_cell ds k → t__law_no_cell { nx := fun _ => k .non, rt := k } (startP 2 ds) := by
  rintro ds k hl ⟨f, rfl, hb, hk⟩
  have sm2 : Sm 2 := by unfold Sm; omega
  have sm0 : Sm 0 := by unfold Sm; omega
  simp [t__law_no_cell, startP]
  refine compP_fm rowD (fun r => if r = ([], 0) then none else some (rowD r)) _ _ (by simp; omega) (fun r hr C hC => ?_) ?_
  · by_cases c : r = ([], 0)
    · rw [if_pos c] at hC
      simp [sm2, sm0, c]
      exact hC
    · rw [if_neg c] at hC
      have c2 : ¬ (r.1 = [] ∧ r.2 = 0) := fun q => c (Prod.ext q.1 q.2)
      simp [sm2, sm0, c2]
      exact hC
  · have e : ∀ l : List Row, (l.filterMap fun r => if r = ([], 0) then none else some (rowD r)).isEmpty = l.all fun r => decide (r = ([], 0)) := by
      intro l
      induction l with
      | nil => rfl
      | cons r l ih => by_cases c : r = ([], 0) <;> simp [c] at ih ⊢ <;> exact ih
    have e := e f.2
    unfold noC at hk
    rw [← e] at hk
    simpa using hk
def lawNum (l : List (Int × Int)) : List Int := l.map fun m => (((srt (l.map fun x => ((l.idxOf x : Nat) : Int))).idxOf ((l.idxOf m : Nat) : Int) : Nat) : Int)
def T__law_same_marks : FT := fun ds k => ∃ l : List (Int × Int), ds = [.lst (l.map pairD)] ∧ l.length < 64 ∧ k (arrD (lawNum l))
def t__law_same_marks : TXS := (sSeq (sSetF 1 (fSortedSet (rOf (xOfF (fLc (jV 0) (.name 2) tYesP (xIdx (rVar 0) (xVar 2)) [2]))))) (sRet (xCall tupleD (aCons (rOf (xOfF (fLc (jV 0) (.name 2) tYesP (xIdx (rVar 1) (xIdx (rVar 0) (xVar 2))) [2]))) aNil))))
theorem int_inj {p q : Int} : (D.int p = D.int q) = (p = q) := by simp
theorem pure__law_same_marks : ∀ ds k, ds.length = 1 → T__law_same_marks ds k → t__law_same_marks { nx := fun _ => k .non, rt := k } (startP 3 ds) := by
  rintro ds k hl ⟨l, rfl, hb, hk⟩
  have cl19 : ∀ z ∈ l.map pairD, D.cl 19 z = true := fun z hz => by
    obtain ⟨p, _, rfl⟩ := List.mem_map.mp hz
    simp
  have cl19' : (D.lst (l.map pairD)).cln = true := by simpa [List.all_eq_true] using cl19
  have ix : ∀ p : Int × Int, (l.map pairD).idxOf (pairD p) = l.idxOf p := fun p => idx_inj (enc := pairD) (fun _ _ => pair_inj)
  have mm : ∀ p ∈ l, pairD p ∈ l.map pairD := fun p hp => List.mem_map.mpr ⟨p, hp, rfl⟩
  simp only [t__law_same_marks, startP, s_sSeq, s_sSetF, s_fSortedSet, s_rOf, s_xOfF, s_fLc, s_jV, List.map_cons, List.map_nil, List.length_cons, List.length_nil, List.replicate, List.cons_append, List.nil_append, List.getElem?_cons_zero, s_xP, PV.dat_d, s_seqL, s_wipe1, s_wipe0, List.set_cons_succ, List.set_cons_zero]
  refine compP_map pairD (fun p => D.int (l.idxOf p : Nat)) l (by omega) (fun p hp C hC => ?_) ?_
  · simp only [s_ctN, s_gN, List.set_cons_succ, List.set_cons_zero, s_xIdx, s_rVar, s_xVar, List.getElem?_cons_zero, List.getElem?_cons_succ, s_xP, s_xD, PV.dat_d, cl19', true_and]
    refine ⟨by simp, mm p hp, ?_⟩
    rw [ix]
    exact hC
  · have e : (l.map fun p => D.int (l.idxOf p : Nat)) = (l.map fun p => ((l.idxOf p : Nat) : Int)).map D.int := by rw [List.map_map]; rfl
    rw [e, intSeq_lst]
    refine ⟨by simpa using hb, ?_⟩
    generalize hs : srt (l.map fun p => ((l.idxOf p : Nat) : Int)) = seen
    simp only [s_sRet, s_xCall, s_aCons, s_rOf, s_xOfF, s_fLc, s_jV, List.getElem?_cons_zero, s_xP, PV.dat_d, s_seqL, s_aNil, s_wipe1, s_wipe0, List.set_cons_succ, List.set_cons_zero]
    refine compP_map pairD (fun p => D.int (seen.idxOf ((l.idxOf p : Nat) : Int) : Nat)) l (by omega) (fun p hp C hC => ?_) ?_
    · have ms : D.int ((l.idxOf p : Nat) : Int) ∈ seen.map D.int := by
        rw [← hs]
        exact List.mem_map.mpr ⟨_, srt_mem.mpr (List.mem_map.mpr ⟨p, hp, rfl⟩), rfl⟩
      have cls : (D.lst (seen.map D.int)).cln = true := by simp
      have ix2 : (seen.map D.int).idxOf (D.int ((l.idxOf p : Nat) : Int)) = seen.idxOf ((l.idxOf p : Nat) : Int) := idx_inj (enc := D.int) (fun _ _ => int_inj)
      simp only [s_ctN, s_gN, List.set_cons_succ, List.set_cons_zero, s_xIdx, s_rVar, s_xVar, List.getElem?_cons_zero, List.getElem?_cons_succ, s_xP, s_xD, PV.dat_d, PV.dat_own, cl19', true_and]
      refine ⟨by simp, mm p hp, cls, by simp, ?_⟩
      rw [ix]
      refine ⟨ms, ?_⟩
      rw [ix2]
      exact hC
    · have e : (l.map fun p => D.int (seen.idxOf ((l.idxOf p : Nat) : Int) : Nat)) = (lawNum l).map D.int := by
        unfold lawNum
        rw [hs, List.map_map]; rfl
      rw [e]
      simp only [List.map_cons, List.map_nil, PV.dat_d, s_tupleL]
      exact hk
def lawMet (a b : List Int) : List Int := lawNum (a.zip b)
def T__law_met : FT := fun ds k => ∃ a b : List Int, ds = [arrD a, arrD b] ∧ a.length = b.length ∧ a.length < 64 ∧ k (arrD (lawMet a b))
def t__law_met : TXS := (sRet (xFn 1 T__law_same_marks (aCons (rOf (xOfF (fLc (jR1 (xCall lenD (aCons (rVar 0) aNil))) (.name 2) tYesP (xTup (aCons (rOf (xIx (rVar 0) (xVar 2))) (aCons (rOf (xIx (rVar 1) (xVar 2))) aNil))) [2]))) aNil)))
theorem pure__law_met : ∀ ds k, ds.length = 2 → T__law_met ds k → t__law_met { nx := fun _ => k .non, rt := k } (startP 3 ds) := by
  rintro ds k hl ⟨a, b, rfl, h1, h2, hk⟩
  have s2 : Sm2 0 (a.length : Int) := ⟨by omega, by omega, by omega, by omega⟩
  have sm2 : Sm 2 := by unfold Sm; omega
  simp [t__law_met, startP, s2]
  rw [rng_iota]
  refine compP_map D.int (fun i => pairD (a.getD i.toNat 0, b.getD i.toNat 0)) _ (by simp [iota]; omega) (fun i hi C hC => ?_) ?_
  · obtain ⟨j, rfl, hj, ej⟩ := atI_iota (a := a) hi (by omega)
    have hb : j < b.length := by omega
    simp [sm2, hj, hb] at hC ⊢
    exact hC
  · have e : (iota a.length).map (fun i => pairD (a.getD i.toNat 0, b.getD i.toNat 0)) = (a.zip b).map pairD := by
      rw [← zip_iota a b h1, List.map_map]; rfl
    rw [e]
    simp [T__law_same_marks]
    exact ⟨_, rfl, by simp; omega, hk⟩
def lawLets (f : Face) (kn : List Int) : List (List Int) := (lets f).filter fun a => decide (lawMet a kn = kn)
def T__law_lets : FT := fun ds k => ∃ (f : Face) (kn : List Int), ds = [faceD f, arrD kn] ∧ f.1.length ≤ 4 ∧ f.2.length = (arrs f.1.length).length ∧ kn.length = f.1.length ∧ k (.lst ((lawLets f kn).map arrD))
def t__law_lets : TXS := (sSeq (sSet 2 (xFn 1 T__law_arrangements (aCons (rOf (xCall lenD (aCons (rOf (xIx (rVar 0) (xC (.int 0)))) aNil))) aNil))) (sSeq (sSetF 3 (fLc (jR1 (xCall lenD (aCons (rVar 2) aNil))) (.name 4) (tB1 (xBin neD (xIx (rOf (xIx (rVar 0) (xC (.int 1)))) (xVar 4)) (xTup (aCons (rOf (xTup aNil)) (aCons (rOf (xC (.int 0))) aNil))))) (xIx (rVar 2) (xVar 4)) [4])) (sRet (xOfF (fLc (jV 3) (.name 5) (tB1 (xBin eqD (xFn 2 T__law_met (aCons (rVar 5) (aCons (rVar 1) aNil))) (xVar 1))) (xVar 5) [5])))))
theorem pure__law_lets : ∀ ds k, ds.length = 2 → T__law_lets ds k → t__law_lets { nx := fun _ => k .non, rt := k } (startP 6 ds) := by
  rintro ds k hl ⟨f, kn, rfl, h4, hlen, hkn, hk⟩
  have sm2 : Sm 2 := by unfold Sm; omega
  have sm0 : Sm 0 := by unfold Sm; omega
  have la := arrs_len f.1.length h4
  have s2 : Sm2 0 ((arrs f.1.length).length : Int) := ⟨by omega, by omega, by omega, by omega⟩
  simp [t__law_lets, startP]
  refine ⟨f.1.length, rfl, h4, ?_⟩
  simp [s2]
  rw [rng_iota]
  refine compP_fm D.int (fun i => if f.2.getD i.toNat ([], 0) = ([], 0) then none else some (arrD ((arrs f.1.length).getD i.toNat []))) _ _ (by simp [iota]; omega) (fun i hi C hC => ?_) ?_
  · obtain ⟨j, rfl, hj, ej⟩ := atI_iota (a := arrs f.1.length) hi (by omega)
    have hb : j < f.2.length := by omega
    by_cases c : f.2[j] = ([], 0)
    · simp [hb, c] at hC
      simp [hj, hb, sm2, sm0, c]
      exact hC
    · have c2 : ¬ (f.2[j].1 = [] ∧ f.2[j].2 = 0) := fun q => c (Prod.ext q.1 q.2)
      simp [hb, hj, c] at hC
      simp [hj, hb, sm2, sm0, c2]
      exact hC
  · have e : ((iota (arrs f.1.length).length).filterMap fun i => if f.2.getD i.toNat ([], 0) = ([], 0) then none else some (arrD ((arrs f.1.length).getD i.toNat []))) = (lets f).map arrD := by
      unfold lets
      have hz : ∀ (as : List (List Int)) (rs : List Row), rs.length = as.length → ((iota as.length).filterMap fun i => if rs.getD i.toNat ([], 0) = ([], 0) then none else some (arrD (as.getD i.toNat []))) = ((as.zip rs).filterMap fun p => if p.2 = ([], 0) then none else some p.1).map arrD := by
        intro as rs hl
        have e1 : (iota as.length).map (fun i => (as.getD i.toNat [], rs.getD i.toNat (([], 0) : Row))) = as.zip rs := by
          apply List.ext_getElem
          · simp [iota, hl]
          · intro i h1 h2
            simp [iota] at h1 h2 ⊢
            have h3 : i < rs.length := by omega
            simp [h1, h3]
        rw [← e1, List.filterMap_map, List.map_filterMap]
        congr 1
        funext i
        show (if rs.getD i.toNat ([], 0) = ([], 0) then none else some (arrD (as.getD i.toNat []))) = Option.map arrD (if rs.getD i.toNat ([], 0) = ([], 0) then none else some (as.getD i.toNat []))
        split <;> rfl
      exact hz _ _ hlen
    rw [e]
    have ll : (lets f).length ≤ 15 := by
      unfold lets
      have := List.length_filterMap_le (fun p : List Int × Row => if p.2 = ([], 0) then none else some p.1) ((arrs f.1.length).zip f.2)
      rw [List.length_zip] at this
      omega
    simp
    refine compP_farr (fun a => decide (lawMet a kn = kn)) _ (by omega) (fun a ha C hC => ?_) hk
    have al := arrs_each _ h4 a (lets_sub ha)
    simp only [s_ctN, s_gN, s_tB1, s_xBin, s_xFn, s_aCons, s_aNil, s_rVar, s_xVar, List.set_cons_succ, List.set_cons_zero, List.getElem?_cons_zero, List.getElem?_cons_succ, s_xP, s_xD, List.length_cons, List.length_nil, List.map_cons, List.map_nil, PV.dat_d, true_and]
    refine ⟨a, kn, rfl, by omega, by omega, fun h => by simp at h, ?_⟩
    by_cases c : lawMet a kn = kn <;> simp [c] at hC ⊢ <;> exact hC
def lawTold (f : Face) (kn : List Int) : Option (List Int) := match lawLets f kn with
  | [] => none
  | a :: r => some ((a :: r).foldl lawMet a)
theorem lawMet_len (a b : List Int) (h : a.length = b.length) : (lawMet a b).length = a.length := by unfold lawMet lawNum; rw [List.length_map, List.length_zip]; omega
def T__law_told : FT := fun ds k => ∃ (f : Face) (kn : List Int), ds = [faceD f, arrD kn] ∧ f.1.length ≤ 4 ∧ f.2.length = (arrs f.1.length).length ∧ kn.length = f.1.length ∧ k (optD (lawTold f kn))
def t__law_told : TXS := (sSeq (sSet 2 (xFn 2 T__law_lets (aCons (rVar 0) (aCons (rVar 1) aNil)))) (sSeq (sIf (tNot1 (tTr (rVar 2))) (sRet (xC .non)) sNext) (sSeq (sSet 3 (xIx (rVar 2) (xC (.int 0)))) (sSeq (sFor (iV 2) (gN 4) (sSet 3 (xFn 2 T__law_met (aCons (rVar 3) (aCons (rVar 4) aNil))))) (sRetV 3)))))
theorem pure__law_told : ∀ ds k, ds.length = 2 → T__law_told ds k → t__law_told { nx := fun _ => k .non, rt := k } (startP 5 ds) := by
  rintro ds k hl ⟨f, kn, rfl, h4, hlen, hkn, hk⟩
  have each : ∀ a ∈ lawLets f kn, a.length = f.1.length := fun a ha => arrs_each _ h4 a (lets_sub (List.mem_filter.mp ha).1)
  simp [t__law_told, startP]
  refine ⟨f, kn, rfl, h4, hlen, hkn, ?_⟩
  unfold lawTold at hk
  generalize lawLets f kn = L at hk each
  cases L with
  | nil => simp at hk ⊢; exact hk
  | cons a r =>
    simp at hk ⊢
    rw [show (arrD a :: r.map arrD) = (a :: r).map arrD from rfl]
    refine loopP_enc arrD (fun xs ρ => (∀ a ∈ xs, a.length = f.1.length) ∧ ∃ (b : List Int) (y : Option PV), b.length = f.1.length ∧ k (arrD (xs.foldl lawMet b)) ∧ ρ = [some (.d (faceD f)), some (.d (arrD kn)), some (.d (.lst ((a :: r).map arrD))), some (.d (arrD b)), y]) (fun ρ q => ?_) (fun x xs ρ C hC q => ?_) _ _ ⟨each, a, _, each a (List.mem_cons_self ..), hk, rfl⟩
    · obtain ⟨_, b, y, _, h, rfl⟩ := q
      simp at h ⊢
      exact h
    · obtain ⟨hx, b, y, hb, h, rfl⟩ := q
      have xl := hx x (List.mem_cons_self ..)
      have g := hC [some (.d (faceD f)), some (.d (arrD kn)), some (.d (.lst ((a :: r).map arrD))), some (.d (arrD (lawMet b x))), some (.d (arrD x))] ⟨fun z hz => hx z (List.mem_cons_of_mem _ hz), lawMet b x, _, by rw [lawMet_len b x (by omega)]; exact hb, h, rfl⟩
      simp
      exact ⟨b, x, rfl, by omega, by omega, g⟩
end K96
end

section
set_option Elab.async false
set_option linter.all false
set_option maxRecDepth 100000
set_option maxHeartbeats 2000000
namespace K96
open PySem PySem.Spec PyProof.Rows L2 PL
/-- the law's exchange over what is left of its turns -/
def lexGo (fs : List Face) : List Nat → List Int → List Stp → Nat → Option Nat × List Stp
  | [], _, st, _ => (none, st)
  | t :: ts, kn, st, q => match lawTold (fs.getD (t % fs.length) ([], [])) kn with
    | none => (some (t % fs.length), st)
    | some u => if u = kn then (if q + 1 = fs.length then (none, st) else lexGo fs ts kn st (q + 1)) else (if 0 = fs.length then (none, st ++ [(t % fs.length, u)]) else lexGo fs ts u (st ++ [(t % fs.length, u)]) 0)
abbrev lexD (r : Option Nat × List Stp) : D := .tup [.str (if r.1.isSome then "no" else "yes"), .tup (r.2.map stpD), .int (match r.1 with | some p => (p : Int) | none => -1)]
def T__law_exchange : FT := fun ds k => ∃ (fs : List Face) (ns : List Str), ds = [facesD fs] ∧ FsOk fs ns ∧ k (lexD (lexGo fs (List.range 60) (iota ns.length) [] 0))
def t__law_exchange : TXS := (sSeq (sSet 1 (xCall tupleD (aCons (rOf (xOfF (fRng1 (xCall lenD (aCons (rOf (xIx (rOf (xIx (rVar 0) (xC (.int 0)))) (xC (.int 0)))) aNil))))) aNil))) (sSeq (sSetF 2 (fLst aNil)) (sSeq (sSet 3 (xC (.int 0))) (sSeq (sFor (iR1 (xC (.int 60))) (gN 4) (sSeq (sSet 5 (xBin modD (xCall intD (aCons (rVar 4) aNil)) (xCall lenD (aCons (rVar 0) aNil)))) (sSeq (sSet 6 (xFn 2 T__law_told (aCons (rOf (xIx (rVar 0) (xVar 5))) (aCons (rVar 1) aNil)))) (sSeq (sIf (tB1 (xBin isND (xVar 6) (xC .non))) (sRet (xTup (aCons (rOf (xC (.str ("no" : Str)))) (aCons (rOf (xCall tupleD (aCons (rVar 2) aNil))) (aCons (rVar 5) aNil))))) sNext) (sSeq (sSet 3 (xBin addD (xVar 3) (xC (.int 1)))) (sSeq (sIf (tB1 (xBin neD (xVar 6) (xVar 1))) (sSeq (sMove 1 6) (sSeq (sApp 2 (xTup (aCons (rVar 5) (aCons (rVar 1) aNil)))) (sSet 3 (xC (.int 0))))) sNext) (sIf (tB1 (xBin eqD (xVar 3) (xCall lenD (aCons (rVar 0) aNil)))) (sRet (xTup (aCons (rOf (xC (.str ("yes" : Str)))) (aCons (rOf (xCall tupleD (aCons (rVar 2) aNil))) (aCons (rOf (xNeg (xC (.int 1)))) aNil))))) sNext))))))) (sRet (xTup (aCons (rOf (xC (.str ("yes" : Str)))) (aCons (rOf (xCall tupleD (aCons (rVar 2) aNil))) (aCons (rOf (xNeg (xC (.int 1)))) aNil)))))))))
theorem lawTold_len {f : Face} {kn b : List Int} (h : f.1.length ≤ 4) (e : lawTold f kn = some b) : b.length = f.1.length := by
  unfold lawTold at e
  have hall : ∀ a ∈ lawLets f kn, a.length = f.1.length := fun a ha => arrs_each _ h a (lets_sub (List.mem_filter.mp ha).1)
  revert e hall
  generalize lawLets f kn = L
  intro e hall
  cases L with
  | nil => cases e
  | cons a r =>
    have go : ∀ (l : List (List Int)) (b : List Int), b.length = f.1.length → (∀ a ∈ l, a.length = f.1.length) → (l.foldl lawMet b).length = f.1.length := by
      intro l
      induction l with
      | nil => intro b hb _; exact hb
      | cons x l ih =>
        intro b hb hl
        exact ih _ (by rw [lawMet_len _ _ (by rw [hb, hl x (List.mem_cons_self ..)])]; exact hb) fun z hz => hl z (List.mem_cons_of_mem _ hz)
    cases e
    exact go _ _ (hall a (List.mem_cons_self ..)) hall
theorem mod_nat (t m : Nat) (h : 0 < m) : ((t : Int)).fmod (m : Int) = ((t % m : Nat) : Int) := by
  rw [Int.fmod_eq_emod_of_nonneg _ (by omega)]; push_cast; rfl
theorem pure__law_exchange : ∀ ds k, ds.length = 1 → T__law_exchange ds k → t__law_exchange { nx := fun _ => k .non, rt := k } (startP 7 ds) := by
  rintro ds k hl ⟨fs, ns, rfl, h, hk⟩
  obtain ⟨f, rest, ef, en⟩ := h.at0
  have n3 := h.n3
  have s2 : Sm2 0 (ns.length : Int) := ⟨by omega, by omega, by omega, by omega⟩
  have s60 : Sm2 0 60 := ⟨by omega, by omega, by omega, by omega⟩
  have sm0 : Sm 0 := by unfold Sm; omega
  have sm2 : Sm 2 := by unfold Sm; omega
  have sm3 : Sm 3 := by unfold Sm; omega
  have hp : 0 < fs.length := by rw [ef]; simp
  have ne : fs ≠ [] := h.ne
  have a0 : atI (fs.map faceD) 0 = some (faceD f) := by rw [ef, List.map_cons, atI_zero]
  have il : (iota ns.length).length = ns.length := by simp [iota]
  simp [t__law_exchange, startP, a0, en, s2, sm0, s60]
  rw [rng_iota (ns.length : Int)]
  have r60 : rngD 0 60 = (List.range 60).map fun i : Nat => D.int i := by simp [rngD]
  rw [r60]
  refine loopP_enc (fun i : Nat => D.int i) (fun ts ρ => ∃ (kn : List Int) (st : List Stp) (q : Nat) (a b c : Option PV), kn.length = ns.length ∧ st.length + ts.length ≤ 60 ∧ k (lexD (lexGo fs ts kn st q)) ∧ ρ = [some (.d (facesD fs)), some (.d (arrD kn)), some (.own (st.map stpD)), some (.d (.int q)), a, b, c]) (fun ρ q => ?_) (fun t ts ρ C hC q => ?_) _ _ ⟨iota ns.length, [], 0, _, _, _, il, by simp, hk, rfl⟩
  · obtain ⟨kn, st, q, a, b, c, _, _, h, rfl⟩ := q
    simp [sm3]
    exact h
  · obtain ⟨kn, st, q, a, b, c, hkn, hst, hh, rfl⟩ := q
    rw [List.length_cons] at hst
    have lt : t % fs.length < fs.length := Nat.mod_lt _ hp
    have nz : ((fs.length : Nat) : Int) ≠ 0 := by omega
    have md := mod_nat t fs.length hp
    have pl : fs[t % fs.length]? = some fs[t % fs.length] := List.getElem?_eq_getElem lt
    have fok := h.ok fs[t % fs.length] (List.getElem_mem lt)
    have eg : fs.getD (t % fs.length) ([], []) = fs[t % fs.length] := by rw [List.getD_eq_getElem?_getD, pl]; rfl
    have ag : atI (fs.map faceD) ((t % fs.length : Nat) : Int) = some (faceD fs[t % fs.length]) := by rw [atI_cast, List.getElem?_map, pl]; rfl
    have smS : Sm (st.length + 1) := by unfold Sm; omega
    rw [lexGo, eg] at hh
    simp only [s_gN, List.set_cons_succ, List.set_cons_zero, s_sSeq, s_sSet, s_xBin, s_xCall, s_aCons, s_aNil, s_rVar, List.getElem?_cons_zero, List.getElem?_cons_succ, s_xP, List.map_cons, List.map_nil, PV.dat_d, s_intI, s_lenT, List.length_map, s_modI, md, s_xFn, s_rOf, s_xIx, s_xVar, s_xD, s_ixT, ag, List.length_cons, List.length_nil]
    refine ⟨nz, trivial, fs[t % fs.length], kn, rfl, by rw [fok.2]; omega, fok.1.len, by rw [fok.2]; omega, fun h => by simp at h, ?_⟩
    cases ht : lawTold fs[t % fs.length] kn with
    | none =>
      rw [ht] at hh
      simp [sm3]
      exact hh
    | some u =>
      rw [ht] at hh
      have ul := lawTold_len (by rw [fok.2]; omega) ht
      dsimp only at hh
      by_cases cu : u = kn
      · subst cu
        rw [if_pos rfl] at hh
        by_cases cq : q + 1 = fs.length
        · rw [if_pos cq] at hh
          have cq2 : (q : Int) + 1 = (fs.length : Int) := by omega
          simp [cq2, sm3]
          exact hh
        · rw [if_neg cq] at hh
          have cq2 : ¬ (q : Int) + 1 = (fs.length : Int) := by omega
          have g := hC [some (.d (facesD fs)), some (.d (arrD u)), some (.own (st.map stpD)), some (.d (.int ((q + 1 : Nat) : Int))), some (.d (.int t)), some (.d (.int ((t % fs.length : Nat) : Int))), some (.d (arrD u))] ⟨u, st, q + 1, _, _, _, hkn, by omega, hh, rfl⟩
          simp [cq2] at g ⊢
          exact g
      · rw [if_neg cu] at hh
        have z : ¬ 0 = fs.length := by omega
        have z2 : ¬ (0 : Int) = (fs.length : Int) := by omega
        rw [if_neg z] at hh
        have g := hC [some (.d (facesD fs)), some (.d (arrD u)), some (.own ((st ++ [(t % fs.length, u)]).map stpD)), some (.d (.int ((0 : Nat) : Int))), some (.d (.int t)), some (.d (.int ((t % fs.length : Nat) : Int))), some (.d (arrD u))] ⟨u, st ++ [(t % fs.length, u)], 0, _, _, _, by rw [ul, fok.2], by simp; omega, hh, rfl⟩
        simp [cu, z2, sm2, smS, ne] at g ⊢
        exact g
def lawFit (f : Face) : Bool := ((lawLets f (iota f.1.length)).all fun a => (lawLets f (iota f.1.length)).all fun b => decide (lawMet a b ∈ lawLets f (iota f.1.length))) && f.2.all fun r => !(decide (r.1 ≠ []) && decide (r.2 = 0))
def T__law_fit : FT := fun ds k => ∃ f : Face, ds = [faceD f] ∧ f.1.length ≤ 4 ∧ f.2.length = (arrs f.1.length).length ∧ k (.bl (lawFit f))
def t__law_fit : TXS := (sSeq (sSet 1 (xFn 1 T__law_arrangements (aCons (rOf (xCall lenD (aCons (rOf (xIx (rVar 0) (xC (.int 0)))) aNil))) aNil))) (sSeq (sSet 2 (xFn 2 T__law_lets (aCons (rVar 0) (aCons (rOf (xCall tupleD (aCons (rOf (xOfF (fRng1 (xCall lenD (aCons (rOf (xIx (rVar 0) (xC (.int 0)))) aNil))))) aNil))) aNil)))) (sSeq (sFor (iV 2) (gN 3) (sFor (iV 2) (gN 4) (sIf (tB1 (xIn (xFn 2 T__law_met (aCons (rVar 3) (aCons (rVar 4) aNil))) (rVar 2) (inD true))) (sRet (xC (.bl false))) sNext))) (sRet (xAnd (xBin eqD (xCall lenD (aCons (rVar 1) aNil)) (xCall lenD (aCons (rOf (xIx (rVar 0) (xC (.int 1)))) aNil))) (xNot (rOf (xOfF (fLc (jX (xIx (rVar 0) (xC (.int 1)))) (.name 5) (tAnd1 (tTr (rOf (xIx (rVar 5) (xC (.int 0))))) (tB1 (xBin eqD (xIx (rVar 5) (xC (.int 1))) (xC (.int 0))))) (xVar 5) [5])))))))))
theorem arr_mem {a : List Int} {l : List (List Int)} : (arrD a ∈ l.map arrD) = (a ∈ l) := mem_inj (fun _ _ => arr_inj)
theorem pure__law_fit : ∀ ds k, ds.length = 1 → T__law_fit ds k → t__law_fit { nx := fun _ => k .non, rt := k } (startP 6 ds) := by
  rintro ds k hl ⟨f, rfl, h4, hlen, hk⟩
  have la := arrs_len _ h4
  have s2 : Sm2 0 (f.1.length : Int) := ⟨by omega, by omega, by omega, by omega⟩
  have il : (iota f.1.length).length = f.1.length := by simp [iota]
  have each : ∀ a ∈ lawLets f (iota f.1.length), a.length = f.1.length := fun a ha => arrs_each _ h4 a (lets_sub (List.mem_filter.mp ha).1)
  simp [t__law_fit, startP]
  refine ⟨f.1.length, rfl, h4, ?_⟩
  simp [s2]
  rw [rng_iota]
  refine ⟨f, iota f.1.length, rfl, h4, hlen, il, ?_⟩
  unfold lawFit at hk
  generalize lawLets f (iota f.1.length) = L at hk each
  simp only [s_sFor, s_iV, List.getElem?_cons_zero, List.getElem?_cons_succ, s_xP, s_seqL, List.set_cons_succ, List.set_cons_zero]
  have clL : (D.lst (L.map arrD)).cln = true := by simp [List.all_eq_true]
  refine loopP_enc arrD (fun xs ρ => (∀ a ∈ xs, a.length = f.1.length) ∧ ∃ (y z : Option PV), k (.bl ((xs.all fun a => L.all fun b => decide (lawMet a b ∈ L)) && f.2.all fun r => !(decide (r.1 ≠ []) && decide (r.2 = 0)))) ∧ ρ = [some (.d (faceD f)), some (.d (.lst ((arrs f.1.length).map arrD))), some (.d (.lst (L.map arrD))), y, z, none]) (fun ρ q => ?_) (fun a xs ρ C hC q => ?_) _ _ ⟨each, _, _, hk, rfl⟩
  · obtain ⟨_, y, z, h, rfl⟩ := q
    have el : ((arrs f.1.length).length : Int) = (f.2.length : Int) := by omega
    simp only [List.all_nil, Bool.true_and] at h
    simp [el]
    refine compP_fm rowD (fun r => if r.1 ≠ [] ∧ r.2 = 0 then some (rowD r) else none) _ _ (by simp; omega) (fun r hr C hC => ?_) ?_
    · by_cases c1 : r.1 = [] <;> by_cases c2 : r.2 = 0 <;> simp [c1, c2] at hC ⊢ <;> exact hC
    · have e : ∀ l : List Row, (l.filterMap fun r => if r.1 ≠ [] ∧ r.2 = 0 then some (rowD r) else none).isEmpty = l.all fun r => !(decide (r.1 ≠ []) && decide (r.2 = 0)) := by
        intro l
        induction l with
        | nil => rfl
        | cons r l ih => by_cases c1 : r.1 = [] <;> by_cases c2 : r.2 = 0 <;> simp [c1, c2] at ih ⊢ <;> exact ih
      have e := e f.2
      rw [← e] at h
      simpa using h
  · obtain ⟨hx, y, z, h, rfl⟩ := q
    have al := hx a (List.mem_cons_self ..)
    simp only [s_gN, List.set_cons_succ, List.set_cons_zero, s_sFor, s_iV, List.getElem?_cons_zero, List.getElem?_cons_succ, s_xP, s_seqL]
    refine loopP_enc arrD (fun ys ρ => (∀ a ∈ ys, a.length = f.1.length) ∧ ∃ (z : Option PV), k (.bl (((ys.all fun b => decide (lawMet a b ∈ L)) && xs.all fun a => L.all fun b => decide (lawMet a b ∈ L)) && f.2.all fun r => !(decide (r.1 ≠ []) && decide (r.2 = 0)))) ∧ ρ = [some (.d (faceD f)), some (.d (.lst ((arrs f.1.length).map arrD))), some (.d (.lst (L.map arrD))), some (.d (arrD a)), z, none]) (fun ρ q => ?_) (fun b ys ρ C2 hC2 q => ?_) _ _ ⟨each, _, by rw [List.all_cons] at h; exact h, rfl⟩
    · obtain ⟨_, z, h, rfl⟩ := q
      exact hC _ ⟨fun z hz => hx z (List.mem_cons_of_mem _ hz), _, _, by simpa using h, rfl⟩
    · obtain ⟨hy, z, h, rfl⟩ := q
      have bl := hy b (List.mem_cons_self ..)
      rw [List.all_cons] at h
      have m : decide (arrD (lawMet a b) ∈ L.map arrD) = decide (lawMet a b ∈ L) := by rw [decide_eq_decide]; exact iff_of_eq arr_mem
      have cla : (arrD (lawMet a b)).cln = true := by simp
      simp only [s_gN, List.set_cons_succ, List.set_cons_zero, s_sIf, s_tB1, s_xIn, s_xFn, s_aCons, s_aNil, s_rVar, List.getElem?_cons_zero, List.getElem?_cons_succ, s_xP, List.length_cons, List.length_nil, List.map_cons, List.map_nil, PV.dat_d, true_and]
      refine ⟨a, b, rfl, by omega, by omega, fun h => by simp at h, ?_⟩
      simp only [s_inL, cla, clL, m, true_and, if_true, s_isB]
      by_cases c : lawMet a b ∈ L
      · have g := hC2 [some (.d (faceD f)), some (.d (.lst ((arrs f.1.length).map arrD))), some (.d (.lst (L.map arrD))), some (.d (arrD a)), some (.d (arrD b)), none] ⟨fun z hz => hy z (List.mem_cons_of_mem _ hz), _, by simpa [c] using h, rfl⟩
        simp [c]
        exact g
      · simp [c] at h ⊢
        exact h
end K96
end

section
set_option Elab.async false
set_option linter.all false
set_option maxRecDepth 100000
set_option maxHeartbeats 2000000
namespace K96
open PySem PySem.Spec PyProof.Rows L2 PL
abbrev Lik := Str × Str × Nat
abbrev likD (l : Lik) : D := .tup [.str l.1, .str l.2.1, .int l.2.2]
def lkStep (ns : List Str) (td : List Int) (p : Nat) (s : List Int × List Lik) (q : Nat × Nat) : List Int × List Lik :=
  if td.getD q.1 0 = td.getD q.2 0 ∧ s.1.getD q.1 0 ≠ s.1.getD q.2 0 then (s.1.map fun m => if m = s.1.getD q.2 0 then s.1.getD q.1 0 else m, s.2 ++ [(ns.getD q.1 Str.empty, ns.getD q.2 Str.empty, p)]) else s
def lkRow (ns : List Str) (td : List Int) (p : Nat) (i : Nat) (s : List Int × List Lik) : List Int × List Lik := (behind i ns.length).foldl (fun s j => lkStep ns td p s (i, j)) s
def lkOne (ns : List Str) (s : List Int × List Lik) (st : Stp) : List Int × List Lik := (List.range ns.length).foldl (fun s i => lkRow ns st.2 st.1 i s) s
def likes (ns : List Str) (st : List Stp) : List Lik := (st.foldl (lkOne ns) (iota ns.length, [])).2
def T__law_likes : FT := fun ds k => ∃ (st : List Stp) (ns : List Str), ds = [.tup (st.map stpD), .tup (ns.map D.str)] ∧ ns.length ≤ 4 ∧ st.length ≤ 60 ∧ (∀ p ∈ st, p.2.length = ns.length) ∧ k (.lst ((likes ns st).map likD))
def t__law_likes : TXS := (sSeq (sSetF 2 (fRng1 (xCall lenD (aCons (rVar 1) aNil)))) (sSeq (sSetF 3 (fLst aNil)) (sSeq (sFor (iV 0) (gT [4, 5]) (sFor (iR1 (xCall lenD (aCons (rVar 1) aNil))) (gN 6) (sFor (iR2 (xBin addD (xVar 6) (xC (.int 1))) (xCall lenD (aCons (rVar 1) aNil))) (gN 7) (sIf (tAnd1 (tB1 (xBin eqD (xIx (rVar 5) (xVar 6)) (xIx (rVar 5) (xVar 7)))) (tB1 (xBin neD (xIx (rVar 2) (xVar 6)) (xIx (rVar 2) (xVar 7))))) (sSeq (sSet 8 (xIx (rVar 2) (xVar 7))) (sSeq (sSetF 2 (fLc (jV 2) (.name 9) tYesP (xIfE (tB1 (xBin eqD (xVar 9) (xVar 8))) (xIx (rVar 2) (xVar 6)) (xVar 9)) [9])) (sApp 3 (xTup (aCons (rOf (xIx (rVar 1) (xVar 6))) (aCons (rOf (xIx (rVar 1) (xVar 7))) (aCons (rVar 4) aNil))))))) sNext)))) (sRetV 3))))
theorem lkStep_len {ns : List Str} {td : List Int} {p : Nat} {s : List Int × List Lik} {q : Nat × Nat} : (lkStep ns td p s q).1.length = s.1.length ∧ (lkStep ns td p s q).2.length ≤ s.2.length + 1 := by
  unfold lkStep
  split <;> simp
theorem pure__law_likes : ∀ ds k, ds.length = 2 → T__law_likes ds k → t__law_likes { nx := fun _ => k .non, rt := k } (startP 10 ds) := by
  rintro ds k hl ⟨st, ns, rfl, h4, hs, hp, hk⟩
  have s2 : Sm2 0 (ns.length : Int) := ⟨by omega, by omega, by omega, by omega⟩
  have sm0 : Sm 0 := by unfold Sm; omega
  have sm3 : Sm 3 := by unfold Sm; omega
  have rn : rngD 0 (ns.length : Int) = (List.range ns.length).map fun i : Nat => D.int i := by simp [rngD]
  simp [t__law_likes, startP, sm0, s2]
  rw [rng_iota]
  refine loopP_enc stpD (fun xs ρ => (∀ p ∈ xs, p.2.length = ns.length) ∧ ∃ (s : List Int × List Lik) (a b c d e f : Option PV), s.1.length = ns.length ∧ s.2.length + xs.length * 16 ≤ 960 ∧ k (.lst ((xs.foldl (lkOne ns) s).2.map likD)) ∧ ρ = [some (.d (.tup (st.map stpD))), some (.d (.tup (ns.map D.str))), some (.own (s.1.map D.int)), some (.own (s.2.map likD)), a, b, c, d, e, f]) (fun ρ q => ?_) (fun x xs ρ C hC q => ?_) _ _ ⟨hp, (iota ns.length, []), _, _, _, _, _, _, by simp [iota], by simp; omega, hk, rfl⟩
  · obtain ⟨_, s, a, b, c, d, e, f, _, _, h, rfl⟩ := q
    simp at h ⊢
    exact h
  · obtain ⟨hx, s, a, b, c, d, e, f, sl, sb, h, rfl⟩ := q
    have xl := hx x (List.mem_cons_self ..)
    rw [List.length_cons] at sb
    rw [List.foldl_cons] at h
    simp [s2]
    rw [rn]
    refine loopP_enc (fun i : Nat => D.int i) (fun is ρ => (∀ i ∈ is, i < ns.length) ∧ ∃ (s : List Int × List Lik) (c d e f : Option PV), s.1.length = ns.length ∧ s.2.length + is.length * 4 + xs.length * 16 ≤ 960 ∧ k (.lst ((xs.foldl (lkOne ns) (is.foldl (fun s i => lkRow ns x.2 x.1 i s) s)).2.map likD)) ∧ ρ = [some (.d (.tup (st.map stpD))), some (.d (.tup (ns.map D.str))), some (.own (s.1.map D.int)), some (.own (s.2.map likD)), some (.d (.int x.1)), some (.d (arrD x.2)), c, d, e, f]) (fun ρ q => ?_) (fun i is ρ C2 hC2 q => ?_) _ _ ⟨fun i hi => List.mem_range.mp hi, s, _, _, _, _, sl, by rw [List.length_range]; omega, h, rfl⟩
    · obtain ⟨_, s, c, d, e, f, sl, sb, h, rfl⟩ := q
      exact hC _ ⟨fun z hz => hx z (List.mem_cons_of_mem _ hz), s, _, _, _, _, _, _, sl, by simpa using sb, h, rfl⟩
    · obtain ⟨hi, s, c, d, e, f, sl, sb, h, rfl⟩ := q
      have il := hi i (List.mem_cons_self ..)
      have s3 : Sm2 ((i : Int) + 1) (ns.length : Int) := ⟨by omega, by omega, by omega, by omega⟩
      rw [List.length_cons] at sb
      rw [List.foldl_cons] at h
      simp [s3]
      rw [behind_rng]
      have bl : (behind i ns.length).length ≤ 4 := by simp [behind]; omega
      refine loopP_enc (fun j : Nat => D.int j) (fun js ρ => (∀ j ∈ js, j < ns.length) ∧ ∃ (s : List Int × List Lik) (d e f : Option PV), s.1.length = ns.length ∧ s.2.length + js.length + is.length * 4 + xs.length * 16 ≤ 960 ∧ k (.lst ((xs.foldl (lkOne ns) (is.foldl (fun s i => lkRow ns x.2 x.1 i s) (js.foldl (fun s j => lkStep ns x.2 x.1 s (i, j)) s))).2.map likD)) ∧ ρ = [some (.d (.tup (st.map stpD))), some (.d (.tup (ns.map D.str))), some (.own (s.1.map D.int)), some (.own (s.2.map likD)), some (.d (.int x.1)), some (.d (arrD x.2)), some (.d (.int i)), d, e, f]) (fun ρ q => ?_) (fun j js ρ C3 hC3 q => ?_) _ _ ⟨fun j hj => (behind_mem hj).2, s, _, _, _, sl, by omega, h, rfl⟩
      · obtain ⟨_, s, d, e, f, sl, sb, h, rfl⟩ := q
        exact hC2 _ ⟨fun z hz => hi z (List.mem_cons_of_mem _ hz), s, _, _, _, _, sl, by simpa using sb, h, rfl⟩
      · obtain ⟨hj, s, d, e, f, sl, sb, h, rfl⟩ := q
        have jl := hj j (List.mem_cons_self ..)
        rw [List.length_cons] at sb
        rw [List.foldl_cons] at h
        obtain ⟨ll1, ll2⟩ := lkStep_len (ns := ns) (td := x.2) (p := x.1) (s := s) (q := (i, j))
        have g := fun d e f => hC3 [some (.d (.tup (st.map stpD))), some (.d (.tup (ns.map D.str))), some (.own ((lkStep ns x.2 x.1 s (i, j)).1.map D.int)), some (.own ((lkStep ns x.2 x.1 s (i, j)).2.map likD)), some (.d (.int x.1)), some (.d (arrD x.2)), some (.d (.int i)), d, e, f] ⟨fun z hz => hj z (List.mem_cons_of_mem _ hz), lkStep ns x.2 x.1 s (i, j), _, _, _, by rw [ll1]; exact sl, by omega, h, rfl⟩
        have i1 : i < x.2.length := by omega
        have j1 : j < x.2.length := by omega
        have i2 : i < s.1.length := by omega
        have j2 : j < s.1.length := by omega
        have smA : Sm (s.2.length + 1) := by unfold Sm; omega
        by_cases c1 : x.2[i] = x.2[j]
        · by_cases c2 : s.1[i] = s.1[j]
          · simp [lkStep, i1, j1, i2, j2, c1, c2] at g
            simp [i1, j1, i2, j2, c1, c2]
            exact g _ _ _
          · simp [lkStep, i1, j1, i2, j2, c1, c2, il, jl] at g
            simp [i1, j1, i2, j2, c1, c2, il, jl]
            refine compP_map D.int (fun m => D.int (if m = s.1[j] then s.1[i] else m)) s.1 (by omega) (fun m hm C hC => ?_) ?_
            · by_cases c3 : m = s.1[j] <;> simp [c3, i2, j2] at hC ⊢ <;> exact hC
            · simp [sm3, smA, il, jl]
              exact g _ _ _
        · simp [lkStep, i1, j1, c1] at g
          simp [i1, j1, c1]
          exact g _ _ _
def T__law_draw : FT := fun ds k => ∃ m : Int, ds = [.pot, .int m] ∧ 0 < m ∧ m ≤ 1000 ∧ ∀ v : Int, 0 ≤ v → v < m → k (.int v)
def pool : List Str := ["x", "ab", "k7", "zed", "m", "b", "long1234", "a0", "w", "y9", "c", "pq"]
def T__law_some_names : FT := fun ds k => ∃ n : Nat, ds = [.pot, .int n] ∧ n ≤ 3 ∧ ∀ xs : List Str, xs.length = n → (∀ x ∈ xs, x ∈ pool) → xs.Nodup → k (.lst (xs.map D.str))
def T__law_names : FT := fun ds k => ∃ n : Nat, ds = [.pot, .int n] ∧ n ≤ 3 ∧ ∀ xs : List Str, xs.length = n → (∀ x ∈ xs, x ∈ pool) → RisS xs → k (.tup (xs.map D.str))
def t__law_names : TXS := (sRet (xCall tupleD (aCons (rOf (xOfF (fSortedS (rOf (xFn 2 T__law_some_names (aCons (rVar 0) (aCons (rVar 1) aNil))))))) aNil)))
theorem pool_two : ∀ x ∈ pool, ∀ y ∈ pool, x ≠ y → risingS x [y] = true → x.cps.toList < y.cps.toList := by decide +kernel
theorem ris_sorted : ∀ (r : List Str) (x : Str), risingS x r = true → x ∈ pool → (∀ y ∈ r, y ∈ pool) → (x :: r).Nodup → RisS (x :: r)
  | [], x, _, _, _, _ => List.pairwise_singleton _ _
  | y :: r, x, h, hx, hr, nd => by
    unfold risingS at h
    rw [Bool.and_eq_true] at h
    rw [List.nodup_cons] at nd
    have hy := hr y (List.mem_cons_self ..)
    have ne : x ≠ y := fun e => nd.1 (by rw [e]; exact List.mem_cons_self ..)
    have lt := pool_two x hx y hy ne (by unfold risingS; rw [h.1]; rfl)
    have ih := ris_sorted r y h.2 hy (fun z hz => hr z (List.mem_cons_of_mem _ hz)) nd.2
    refine List.pairwise_cons.mpr ⟨fun z hz => ?_, ih⟩
    rcases List.mem_cons.mp hz with e | e
    · rw [e]; exact lt
    · exact List.lt_trans lt ((List.pairwise_cons.mp ih).1 z e)
theorem pure__law_names : ∀ ds k, ds.length = 2 → T__law_names ds k → t__law_names { nx := fun _ => k .non, rt := k } (startP 2 ds) := by
  rintro ds k hl ⟨n, rfl, hn, hk⟩
  simp only [t__law_names, startP, s_sRet, s_xCall, s_aCons, s_aNil, s_rOf, s_xOfF, fSortedS, s_xFn, s_rVar, List.map_cons, List.map_nil, List.length_cons, List.length_nil, List.replicate, List.cons_append, List.nil_append, List.getElem?_cons_zero, List.getElem?_cons_succ, s_xP, PV.dat_d, true_and]
  refine ⟨n, rfl, hn, fun xs h1 h2 h3 => ⟨fun h => by simp at h, ?_⟩⟩
  simp only [PV.dat_d, strsD_strs, s_tupleL]
  refine ⟨by omega, fun ys hp hs => ?_⟩
  refine hk ys (by rw [hp.length_eq]; exact h1) (fun y hy => h2 y (hp.mem_iff.mp hy)) ?_
  have nd := hp.nodup_iff.mpr h3
  cases ys with
  | nil => exact List.Pairwise.nil
  | cons y ys => exact ris_sorted ys y hs (h2 y (hp.mem_iff.mp (List.mem_cons_self ..))) (fun z hz => h2 z (hp.mem_iff.mp (List.mem_cons_of_mem _ hz))) nd
end K96
end

section
set_option Elab.async false
set_option linter.all false
set_option maxRecDepth 100000
set_option maxHeartbeats 2000000
namespace K96
open PySem PySem.Spec PyProof.Rows L2 PL
/-- a row as it is drawn for an arrangement -/
structure DrRow (a : List Int) (r : Row) : Prop where
  v : RowV r
  six : (∀ s ∈ r.1, s ≤ 6) ∧ r.2 ≤ 6
  lo : ¬ (0 < leastOf r ∧ leastOf r < ctot a)
theorem trim_least : ∀ (rs : List Int) (t m : Int), (∀ s ∈ rs, m ≤ s) → m ≤ t → m ≤ (trimR rs t).2 ∧ (trimR rs t).2 ≤ t ∧ (∀ s ∈ (trimR rs t).1, s ∈ rs)
  | [], t, m, _, ht => ⟨ht, Int.le_refl _, fun s hs => by cases hs⟩
  | y :: ys, t, m, h, ht => by
    have hy := h y (List.mem_cons_self ..)
    unfold trimR
    split
    · rename_i e
      obtain ⟨h1, h2, h3⟩ := trim_least ys (t - 1) m (fun s hs => h s (List.mem_cons_of_mem _ hs)) (by omega)
      exact ⟨h1, by omega, fun s hs => List.mem_cons_of_mem _ (h3 s hs)⟩
    · exact ⟨ht, Int.le_refl _, fun s hs => List.mem_reverse.mp hs⟩
/-- the gap below the ray -/
theorem trim_gap : ∀ (rs : List Int) (t : Int), rs.Pairwise (· > ·) → (∀ s ∈ rs, s < t) → ∀ s ∈ (trimR rs t).1, s < (trimR rs t).2 - 1
  | [], t, _, _, s, hs => by cases hs
  | y :: ys, t, hp, hl, s, hs => by
    rw [List.pairwise_cons] at hp
    unfold trimR at hs ⊢
    have ly := hl y (List.mem_cons_self ..)
    by_cases e : y = t - 1
    · rw [if_pos e] at hs ⊢
      exact trim_gap ys (t - 1) hp.2 (fun z hz => by have := hp.1 z hz; omega) s hs
    · rw [if_neg e] at hs ⊢
      rcases List.mem_cons.mp (List.mem_reverse.mp hs) with q | q
      · subst q; show s < t - 1; omega
      · have := hp.1 s q
        show s < t - 1
        omega
theorem tidy_row {ns : List Int} {ray m : Int} (hm : 1 ≤ m) (h1 : ∀ s ∈ ns, m ≤ s ∧ s ≤ 20) (h2 : ray = 0 ∨ (m ≤ ray ∧ ray ≤ 20)) : RowV (tidy ns ray) ∧ (∀ s ∈ (tidy ns ray).1, m ≤ s) ∧ ((tidy ns ray).2 = 0 ∨ m ≤ (tidy ns ray).2) := by
  have sml : Sml (tidy ns ray) := tidy_sml fun s hs => ⟨by have := h1 s hs; omega, (h1 s hs).2⟩
  have memm : ∀ s ∈ (tidy ns ray).1, m ≤ s := fun s hs => (h1 s (srt_mem.mp ((tidy_sub ns ray).subset hs))).1
  by_cases c : ray = 0
  · subst c
    have e : (tidy ns 0).2 = 0 := by simp [tidy]
    exact ⟨⟨sml.up, sml.mem, by rw [e]; omega, .inl e, sml.len⟩, memm, .inl e⟩
  · have h2 := h2.resolve_left c
    have e : tidy ns ray = trimR ((srt ns).filter fun x => decide (x < ray)).reverse ray := by simp [tidy, c]
    have lo := trim_least ((srt ns).filter fun x => decide (x < ray)).reverse ray m (fun s hs => (h1 s (srt_mem.mp (List.mem_filter.mp (List.mem_reverse.mp hs)).1)).1) h2.1
    have gp := trim_gap ((srt ns).filter fun x => decide (x < ray)).reverse ray (by
      rw [List.pairwise_reverse]
      exact (srt_up ns).sublist List.filter_sublist) (fun s hs => by
      have := (List.mem_filter.mp (List.mem_reverse.mp hs)).2
      exact of_decide_eq_true this)
    rw [← e] at lo gp
    exact ⟨⟨sml.up, sml.mem, by omega, .inr gp, sml.len⟩, memm, .inr lo.1⟩
theorem tidy_six {ns : List Int} {ray m : Int} (h1 : ∀ s ∈ ns, s ≤ 6) (h2 : ray = 0 ∨ (m ≤ ray ∧ ray ≤ 6)) : (∀ s ∈ (tidy ns ray).1, s ≤ 6) ∧ (tidy ns ray).2 ≤ 6 := by
  refine ⟨fun s hs => h1 s (srt_mem.mp ((tidy_sub ns ray).subset hs)), ?_⟩
  have go : ∀ (rs : List Int) (t : Int), (trimR rs t).2 ≤ t := by
    intro rs
    induction rs with
    | nil => intro t; exact Int.le_refl _
    | cons y ys ih =>
      intro t
      unfold trimR
      split
      · have := ih (t - 1); omega
      · exact Int.le_refl _
  unfold tidy
  split
  · have := go ((srt ns).filter fun x => decide (x < ray)).reverse ray
    omega
  · show (0 : Int) ≤ 6; omega
theorem row_least {r : Row} {m : Int} (h1 : ∀ s ∈ r.1, m ≤ s) (h2 : r.2 = 0 ∨ m ≤ r.2) : ¬ (0 < leastOf r ∧ leastOf r < m) := by
  obtain ⟨few, ray⟩ := r
  cases few with
  | nil =>
    show ¬ (0 < ray ∧ ray < m)
    have h2 : ray = 0 ∨ m ≤ ray := h2
    omega
  | cons s few =>
    show ¬ (0 < s ∧ s < m)
    have := h1 s (List.mem_cons_self ..)
    omega
/-- what a drawn face is -/
structure DrF (ns : List Str) (f : Face) : Prop where
  names : f.1 = ns
  len : f.2.length = (arrs ns.length).length
  rows : ∀ p ∈ (arrs ns.length).zip f.2, DrRow p.1 p.2
def T__law_drawn_face : FT := fun ds k => ∃ ns : List Str, ds = [.pot, .tup (ns.map D.str)] ∧ ns.length ≤ 3 ∧ ∀ f : Face, DrF ns f → k (faceD f)
def t__law_drawn_face : TXS := (sSeq (sSetF 2 (fLst aNil)) (sSeq (sFor (iX (xFn 1 T__law_arrangements (aCons (rOf (xCall lenD (aCons (rVar 1) aNil))) aNil))) (gN 3) (sSeq (sSet 4 (xCall maxD2 (aCons (rOf (xC (.int 1))) (aCons (rOf (xLenSet (rVar 3))) aNil)))) (sSeq (sSetF 5 (fLc (jR2 (xVar 4) (xC (.int 6))) (.name 7) (tB1 (xBin eqD (xFn 2 T__law_draw (aCons (rVar 0) (aCons (rOf (xC (.int 3))) aNil))) (xC (.int 0)))) (xVar 7) [7])) (sSeq (sSet 6 (xIx (rOf (xOfF (fLst (aCons (rOf (xC (.int 0))) (aCons (rVar 4) (aCons (rVar 4) (aCons (rOf (xBin addD (xVar 4) (xFn 2 T__law_draw (aCons (rVar 0) (aCons (rOf (xC (.int 4))) aNil))))) aNil))))))) (xFn 2 T__law_draw (aCons (rVar 0) (aCons (rOf (xC (.int 4))) aNil))))) (sSeq (sIf (tB1 (xBin gtD (xFn 2 T__law_draw (aCons (rVar 0) (aCons (rOf (xC (.int 3))) aNil))) (xC (.int 0)))) (sSetF 5 (fLst aNil)) sNext) (sSeq (sIf (tB1 (xBin eqD (xFn 2 T__law_draw (aCons (rVar 0) (aCons (rOf (xC (.int 4))) aNil))) (xC (.int 0)))) (sSet 6 (xC (.int 0))) sNext) (sApp 2 (xFn 2 T__law_row_of (aCons (rVar 5) (aCons (rVar 6) aNil)))))))))) (sRet (xTup (aCons (rVar 1) (aCons (rOf (xCall tupleD (aCons (rVar 2) aNil))) aNil))))))
/-- a comprehension whose test may answer either way -/
theorem compP_may {c : CT} {tt : TXT} {te : TX} {ρ : PEnv} {k : List D → Prop} : ∀ (l : List Int) (acc : List Int), acc.length + l.length ≤ 100000 →
    (∀ x ∈ l, ∀ C : Option D → Prop, C none → C (some (.int x)) → c.bind (.int x) ρ fun ρ2 => tt ρ2 fun b => if b = true then te ρ2 fun y => C (some y) else C none) → (∀ out : List Int, out.length ≤ acc.length + l.length → (∀ x ∈ out, x ∈ acc ∨ x ∈ l) → k (out.map D.int)) → compP c tt te ρ k (l.map D.int) (acc.map D.int)
  | [], acc, _, _, hk => by
    simp [compP]
    exact hk acc (by simp) fun x hx => .inl hx
  | x :: l, acc, hl, h, hk => by
    rw [List.length_cons] at hl
    refine h x (List.mem_cons_self ..) (fun o => match o with | some y => Sm ((acc.map D.int).length + 1) ∧ compP c tt te ρ k (l.map D.int) (acc.map D.int ++ [y]) | none => compP c tt te ρ k (l.map D.int) (acc.map D.int)) ?_ ?_
    · exact compP_may l acc (by omega) (fun y hy => h y (List.mem_cons_of_mem _ hy)) fun out h1 h2 => hk out (by rw [List.length_cons]; omega) fun z hz => (h2 z hz).imp_right fun q => List.mem_cons_of_mem _ q
    · refine ⟨by rw [List.length_map]; unfold Sm; omega, ?_⟩
      have := compP_may (c := c) (tt := tt) (te := te) (ρ := ρ) (k := k) l (acc ++ [x]) (by simp; omega) (fun y hy => h y (List.mem_cons_of_mem _ hy)) fun out h1 h2 => hk out (by simp at h1 ⊢; omega) fun z hz => by
        rcases h2 z hz with q | q
        · rcases List.mem_append.mp q with q | q
          · exact .inl q
          · rw [List.mem_singleton.mp q]; exact .inr (List.mem_cons_self ..)
        · exact .inr (List.mem_cons_of_mem _ q)
      simpa using this
theorem pure__law_drawn_face : ∀ ds k, ds.length = 2 → T__law_drawn_face ds k → t__law_drawn_face { nx := fun _ => k .non, rt := k } (startP 8 ds) := by
  rintro ds k hl ⟨ns, rfl, h3, hk⟩
  have sm0 : Sm 0 := by unfold Sm; omega
  have sm2 : Sm 2 := by unfold Sm; omega
  have sm4 : Sm 4 := by unfold Sm; omega
  have la := arrs_len ns.length (by omega)
  simp [t__law_drawn_face, startP, sm0]
  refine ⟨ns.length, rfl, by omega, ?_⟩
  simp
  refine loopP_enc arrD (fun xs ρ => ∃ (dn : List (List Int)) (rows : List Row) (a b c d : Option PV), dn ++ xs = arrs ns.length ∧ rows.length = dn.length ∧ (∀ p ∈ dn.zip rows, DrRow p.1 p.2) ∧ ρ = [some (.d .pot), some (.d (.tup (ns.map D.str))), some (.own (rows.map rowD)), a, b, c, d, none]) (fun ρ q => ?_) (fun x xs ρ C hC q => ?_) _ _ ⟨[], [], _, _, _, _, rfl, rfl, (fun p hp => by cases hp), rfl⟩
  · obtain ⟨dn, rows, a, b, c, d, e, hl, hr, rfl⟩ := q
    rw [List.append_nil] at e
    subst e
    simp [sm2]
    exact hk (ns, rows) ⟨rfl, hl, hr⟩
  · obtain ⟨dn, rows, a, b, c, d, e, hl, hr, rfl⟩ := q
    have hx : x ∈ arrs ns.length := by rw [← e]; simp
    have dl : dn.length + 1 ≤ 15 := by
      have := congrArg List.length e
      simp at this
      omega
    have xl := arrs_each _ (by omega) x hx
    have xc := arrs_ddp _ (by omega) x hx
    obtain ⟨x0, x4⟩ := arrs_ctot _ (by omega) x hx
    have smR : Sm (rows.length + 1) := by unfold Sm; omega
    have x3 : ctot x ≤ 3 := by
      have : ∀ n ≤ 3, ∀ a ∈ arrs n, ctot a ≤ 3 := by decide +kernel
      exact this _ h3 x hx
    generalize hm : max 1 (ctot x) = m
    have m1 : 1 ≤ m ∧ m ≤ 3 ∧ ctot x ≤ m := by omega
    have s6 : Sm2 m 6 := ⟨by omega, by omega, by omega, by omega⟩
    -- the row is laid down
    have lay : ∀ (few : List Int) (ray : Int) (c d : Option PV), few.length < 64 → (∀ s ∈ few, m ≤ s ∧ s ≤ 6) → (ray = 0 ∨ (m ≤ ray ∧ ray ≤ 6)) →
        sApp 2 (xFn 2 T__law_row_of (aCons (rVar 5) (aCons (rVar 6) aNil))) { nx := C, rt := k, bk := sRet (xTup (aCons (rVar 1) (aCons (rOf (xCall tupleD (aCons (rVar 2) aNil))) aNil))) { nx := fun _ => k .non, rt := k }, ct := C } [some (.d .pot), some (.d (.tup (ns.map D.str))), some (.own (rows.map rowD)), some (.d (arrD x)), some (.d (.int m)), some (.own (few.map D.int)), some (.d (.int ray)), none] := fun few ray c d f1 f2 f3 => by
      obtain ⟨t1, t2, t3⟩ := tidy_row m1.1 (fun s hs => ⟨(f2 s hs).1, by have := (f2 s hs).2; omega⟩) (f3.imp id fun q => ⟨q.1, by omega⟩)
      have t6 := tidy_six (fun s hs => (f2 s hs).2) f3
      have g := hC [some (.d .pot), some (.d (.tup (ns.map D.str))), some (.own ((rows ++ [tidy few ray]).map rowD)), some (.d (arrD x)), some (.d (.int m)), some (.own (few.map D.int)), some (.d (.int ray)), none] ⟨dn ++ [x], rows ++ [tidy few ray], _, _, _, _, by simpa using e, by simp [hl], fun p hp => by
        rw [List.zip_append hl.symm] at hp
        rcases List.mem_append.mp hp with q | q
        · exact hr p q
        · simp at q
          subst q
          exact ⟨t1, t6, row_least (fun s hs => by have := t2 s hs; show ctot x ≤ s; omega) (by rcases t3 with q | q; exact .inl q; right; show ctot x ≤ (tidy few ray).2; omega)⟩, rfl⟩
      simp only [s_sApp, List.getElem?_cons_zero, List.getElem?_cons_succ, s_ownOf, s_xFn, s_aCons, s_aNil, s_rVar, s_xP, List.length_cons, List.length_nil, List.map_cons, List.map_nil, PV.dat_own, PV.dat_d, true_and]
      refine ⟨few, ray, rfl, f1, by omega, fun h => by simp [List.all_eq_true], ?_⟩
      rw [List.map_append] at g
      simpa [smR] using g
    simp only [s_gN, List.set_cons_succ, List.set_cons_zero, s_sSeq, s_sSet, s_xCall, s_aCons, s_aNil, s_rOf, s_xC, s_xLenSet, s_rVar, List.getElem?_cons_zero, List.getElem?_cons_succ, s_xP, PV.dat_d, intSeq_tup, List.map_cons, List.map_nil, s_max2, xc, hm]
    refine ⟨by omega, ?_⟩
    simp only [s_sSetF, s_fLc, s_jR2, s_xVar, List.getElem?_cons_zero, List.getElem?_cons_succ, s_xD, s_xC, s_wipe1, s_wipe0, List.set_cons_succ, List.set_cons_zero]
    refine ⟨s6, ?_⟩
    rw [rng_rngI]
    have drw : ∀ (n : Int) (i : Nat) (ρ : PEnv) (K : D → Prop), ρ[0]? = some (some (.d .pot)) → 0 < n ∧ n ≤ 1000 → (∀ v, 0 ≤ v → v < n → K (.int v)) → xFn 2 T__law_draw (aCons (rVar 0) (aCons (rOf (xC (.int n))) aNil)) ρ K := fun n i ρ K e hn h => by
      simp only [s_xFn, s_aCons, s_aNil, s_rVar, e, s_xP, s_rOf, s_xC, List.length_cons, List.length_nil, List.map_cons, List.map_nil, PV.dat_d, true_and]
      exact ⟨n, rfl, hn.1, hn.2, fun v h1 h2 => ⟨fun h => by simp at h, h v h1 h2⟩⟩
    have cm := compP_may (c := .name 7) (tt := tB1 (xBin eqD (xFn 2 T__law_draw (aCons (rVar 0) (aCons (rOf (xC (.int 3))) aNil))) (xC (.int 0)))) (te := xVar 7) (ρ := [some (.d .pot), some (.d (.tup (ns.map D.str))), some (.own (rows.map rowD)), some (.d (arrD x)), some (.d (.int m)), c, d, none])
      (k := fun xs => sSeq (sSet 6 (xIx (rOf (xOfF (fLst (aCons (rOf (xC (.int 0))) (aCons (rVar 4) (aCons (rVar 4) (aCons (rOf (xBin addD (xVar 4) (xFn 2 T__law_draw (aCons (rVar 0) (aCons (rOf (xC (.int 4))) aNil))))) aNil))))))) (xFn 2 T__law_draw (aCons (rVar 0) (aCons (rOf (xC (.int 4))) aNil))))) (sSeq (sIf (tB1 (xBin gtD (xFn 2 T__law_draw (aCons (rVar 0) (aCons (rOf (xC (.int 3))) aNil))) (xC (.int 0)))) (sSetF 5 (fLst aNil)) sNext) (sSeq (sIf (tB1 (xBin eqD (xFn 2 T__law_draw (aCons (rVar 0) (aCons (rOf (xC (.int 4))) aNil))) (xC (.int 0)))) (sSet 6 (xC (.int 0))) sNext) (sApp 2 (xFn 2 T__law_row_of (aCons (rVar 5) (aCons (rVar 6) aNil)))))) { nx := C, rt := k, bk := sRet (xTup (aCons (rVar 1) (aCons (rOf (xCall tupleD (aCons (rVar 2) aNil))) aNil))) { nx := fun _ => k .non, rt := k }, ct := C } [some (.d .pot), some (.d (.tup (ns.map D.str))), some (.own (rows.map rowD)), some (.d (arrD x)), some (.d (.int m)), some (.own xs), d, none]) (rngI m 6) [] (by rw [rngI_len]; simp; omega) (fun z hz C0 hn hs => ?_) (fun out ho1 ho2 => ?_)
    · exact cm
    · simp only [s_ctN, s_gN, List.set_cons_succ, List.set_cons_zero, s_tB1, s_xBin]
      refine drw 3 0 _ _ rfl (by omega) fun v h1 h2 => ?_
      by_cases c : v = 0 <;> simp [c] <;> first | exact hs | exact hn
    · have om : ∀ s ∈ out, m ≤ s ∧ s ≤ 6 := fun s hs => by
        have := rngI_mem.mp ((ho2 s hs).resolve_left (fun q => by cases q))
        omega
      have ol : out.length < 64 := by
        rw [rngI_len] at ho1
        simp at ho1
        omega
      -- the ray is chosen
      simp only [s_sSeq, s_sSet, s_xIx, s_rOf, s_xOfF, s_fLst, s_aCons, s_aNil, s_xC, s_rVar, s_xBin, s_xVar, List.getElem?_cons_zero, List.getElem?_cons_succ, s_xP, s_xD]
      refine drw 4 0 _ _ rfl (by omega) fun v v1 v2 => ?_
      simp only [s_addI, s_withD, s_allD0, s_allD1, List.length_cons, List.length_nil]
      refine ⟨sm4, drw 4 0 _ _ rfl (by omega) fun u u1 u2 => ?_⟩
      simp only [PV.dat_d, s_ixL]
      have pick : ∃ ray : Int, atI [D.int 0, D.int m, D.int m, D.int (m + v)] u = some (.int ray) ∧ (ray = 0 ∨ (m ≤ ray ∧ ray ≤ 6)) := by
        have : u = ((0 : Nat) : Int) ∨ u = ((1 : Nat) : Int) ∨ u = ((2 : Nat) : Int) ∨ u = ((3 : Nat) : Int) := by omega
        rcases this with q | q | q | q <;> (subst q; rw [atI_cast])
        · exact ⟨0, rfl, .inl rfl⟩
        · exact ⟨m, rfl, .inr ⟨by omega, by omega⟩⟩
        · exact ⟨m, rfl, .inr ⟨by omega, by omega⟩⟩
        · exact ⟨m + v, rfl, .inr ⟨by omega, by omega⟩⟩
      obtain ⟨ray, er, hr2⟩ := pick
      rw [er]
      simp only [List.set_cons_succ, List.set_cons_zero, s_sIf, s_tB1, s_xBin]
      refine drw 3 0 _ _ rfl (by omega) fun a1 a2 a3 => ?_
      simp only [s_xC, s_gtI, s_isB]
      have last : ∀ few : List Int, few.length < 64 → (∀ s ∈ few, m ≤ s ∧ s ≤ 6) → sSeq (sIf (tB1 (xBin eqD (xFn 2 T__law_draw (aCons (rVar 0) (aCons (rOf (xC (.int 4))) aNil))) (xC (.int 0)))) (sSet 6 (xC (.int 0))) sNext) (sApp 2 (xFn 2 T__law_row_of (aCons (rVar 5) (aCons (rVar 6) aNil)))) { nx := C, rt := k, bk := sRet (xTup (aCons (rVar 1) (aCons (rOf (xCall tupleD (aCons (rVar 2) aNil))) aNil))) { nx := fun _ => k .non, rt := k }, ct := C } [some (.d .pot), some (.d (.tup (ns.map D.str))), some (.own (rows.map rowD)), some (.d (arrD x)), some (.d (.int m)), some (.own (few.map D.int)), some (.d (.int ray)), none] := fun few f1 f2 => by
        simp only [s_sSeq, s_sIf, s_tB1, s_xBin]
        refine drw 4 0 _ _ rfl (by omega) fun b1 b2 b3 => ?_
        simp only [s_xC, s_eqD, s_clI, true_and, s_isB]
        by_cases cb : b1 = 0
        · simp only [cb, decide_true, if_true, s_sSet, s_xC, List.set_cons_succ, List.set_cons_zero]
          exact lay few 0 c d f1 f2 (.inl rfl)
        · have cb2 : ¬ (D.int b1 = D.int 0) := by simp [cb]
          simp only [cb2, decide_false, Bool.false_eq_true, if_false, s_sNext]
          exact lay few ray c d f1 f2 hr2
      by_cases ca : 0 < a1
      · simp only [ca, decide_true, if_true, s_sSetF, s_fLst, s_aNil, s_withD, s_allD0, List.set_cons_succ, List.set_cons_zero]
        exact ⟨sm0, last [] (by simp) (fun s hs => by cases hs)⟩
      · simp only [ca, decide_false, Bool.false_eq_true, if_false, s_sNext]
        exact last out ol om
end K96
end

section
set_option Elab.async false
set_option linter.all false
set_option maxRecDepth 100000
set_option maxHeartbeats 2000000
namespace K96
open PySem PySem.Spec PyProof.Rows L2 PL
theorem rdp {K : PySem.W.Frag} {σ : L2.St} {H : Hp} {Q : VK} {p : Addr} {xs : List V} {j : Int} {v : V} (hσ : σ[0]? = some (some (.ref p))) (hp : H p = some (.lst xs)) (hv : L2.atI xs j = some v) (hq : Q v H) : tOp (rIxL K) (tVar 0) (tC (.int j)) σ H Q := ⟨.ref p, hσ, p, xs, j, v, rfl, rfl, SqL.of hp, hv, hq⟩
theorem wrp {σ : L2.St} {H : Hp} {Q : L2.St → Hp → Prop} {p : Addr} {xs : List V} {j : Int} {n : Nat} {v : V} (hσ : σ[0]? = some (some (.ref p))) (hp : H p = some (.lst xs)) (hj : ixN xs.length j = some n) (hq : Q σ (upd H p (.lst (xs.set n v)))) : gSub (tVar 0) (tC (.int j)) rSetL v σ H Q := ⟨.ref p, hσ, p, xs, j, n, rfl, rfl, hp, hj, hq⟩
def spDraw : Sp := fun vs H Q _ => ∃ (p l : Addr) (ns : List Int) (a b c m : Int), vs = [.ref p, .int m] ∧ H p = some (.lst [.ref l, .int a, .int b, .int c]) ∧ H l = some (.lst (ns.map V.int)) ∧ 0 ≤ a ∧ 0 < m ∧ m ≤ 1000 ∧
  ∀ v a' b' c' : Int, 0 ≤ v → v < m → 0 ≤ a' → Q (.int v) (upd H p (.lst [.ref l, .int a', .int b', .int c']))
abbrev N__law_draw : List Str := ["pot", "many", "cell", "first", "value"]
theorem sc__law_draw : FnScope N__law_draw ["pot", "many"] (defScope s__law_draw) := ⟨rfl, rfl, rfl, by decide +kernel, rfl, by decide +kernel, by decide +kernel⟩
variable {P : Program} {w : World} {K : PySem.W.Frag} {mg : Str → Option Value} {base : Heap}
theorem plI {e : Const} {j : Nat} {pos : Pos} : PlainIx (.Constant e j pos) := by intro _ _; rfl
theorem raw__law_draw (h : HD P w K mg base) {f : Addr} {fd : FuncData} (F : FunD K "_law_draw" "_law_draw" (defArgs s__law_draw) (defBody s__law_draw) (defScope s__law_draw) [] [] f fd) : FnOk P w K mg base CX0 1 f fd ["pot", "many"] spDraw := by
  refine F.ok sc__law_draw (fun vs H Q E ⟨p, l, ns, a, b, c, m, e, _⟩ => by rw [e]; rfl) (fun cdv A outer s H vs Q E hr h => ?_)
  have nd := sc__law_draw.nd
  obtain ⟨p, l, ns, a, b, c, m, rfl, hp, hl, ha, hm, hm2, hq⟩ := h
  have bl := (‹HD P w K mg base›).b_len
  have bi := (‹HD P w K mg base›).b_int
  refine ⟨_, pss_cons (ps_if (pt_cmpR op_lt (pe_ix ix_list (pv 0) pe_int plI) pe_int (nomark _))
      (pss_cons (ps_set (i := 2) nd rfl (Or.inl rfl) pe_int)
      (pss_cons (ps_if (pt_cmpR op_lt (pe_ix ix_list (pv 0) pe_int plI) (pe_callB call_len rfl bl boot_len (pa_cons (pe_ix ix_list (pv 0) pe_int plI) pa_nil)) (nomark _))
        (pss_cons (ps_set (i := 2) nd rfl (Or.inl rfl) (pe_ix ix_list (pe_ix ix_list (pv 0) pe_int plI) (pe_ix ix_list (pv 0) pe_int plI) (by intro _ _; rfl)))
        (pss_one (ps_asg (pe_op op_add (pe_ix ix_list (pv 0) pe_int plI) pe_int) (pg_sub (pv 0) pe_int set_list)))) pss_nil)
      (pss_cons (ps_asg (pe_op op_mod (pe_callTy call_int1 rfl bi boot_int (pa_cons (pe_op op_add (pe_op op_mul (pe_ix ix_list (pv 0) pe_int plI) pe_int) pe_int) pa_nil)) pe_int) (pg_sub (pv 0) pe_int set_list))
      (pss_cons (ps_asg (pv 2) (pg_sub (pv 0) pe_int set_list))
      (pss_one (ps_if (pt_cmpR op_lt (pv 2) (pe_op op_pow pe_int pe_int) (nomark _))
        (pss_cons (ps_set (i := 3) nd rfl (Or.inl rfl) (pe_op op_mod (pe_callTy call_int1 rfl bi boot_int (pa_cons (pe_op op_add (pe_op op_add (pe_op op_mul (pv 2) pe_int) (pe_op op_mul (pe_ix ix_list (pv 0) pe_int plI) pe_int)) pe_int) pa_nil)) pe_int))
        (pss_one (ps_asg (pe_op op_add (pe_op op_mul (pv 3) pe_int) (pe_op op_mod (pe_callTy call_int1 rfl bi boot_int (pa_cons (pe_op op_add (pe_op op_mul (pv 2) pe_int) (pe_ix ix_list (pv 0) pe_int plI)) pa_nil)) pe_int)) (pg_sub (pv 0) pe_int set_list)))) pss_nil)))))) pss_nil)
    (pss_cons (ps_set (i := 4) nd rfl (Or.inl rfl) (pe_op op_mod (pe_callTy call_int1 rfl bi boot_int (pa_cons (pe_ix ix_list (pv 0) pe_int plI) pa_nil)) (pv 1)))
    (pss_cons (ps_asg (pe_op op_fdivN (pe_ix ix_list (pv 0) pe_int plI) (pv 1)) (pg_sub (pv 0) pe_int set_list))
    (pss_one (ps_ret (pv 4))))), ?_⟩
  have npl : l ≠ p := fun e => by
    rw [e, hp] at hl
    have hl := Option.some.inj hl
    injection hl with hl
    cases ns with
    | nil => cases hl
    | cons n ns => injection hl with h1 _; cases h1
  obtain ⟨HH, hHH⟩ : ∃ HH : Int → Int → Int → Hp, ∀ a b c, HH a b c = upd H p (.lst [.ref l, .int a, .int b, .int c]) := ⟨_, fun _ _ _ => rfl⟩
  have gp : ∀ a b c, HH a b c p = some (.lst [.ref l, .int a, .int b, .int c]) := fun a b c => by rw [hHH, upd_same]
  have gl : ∀ a b c, HH a b c l = some (.lst (ns.map V.int)) := fun a b c => by rw [hHH, upd_ne npl]; exact hl
  have up : ∀ a b c a' b' c', upd (HH a b c) p (.lst [.ref l, .int a', .int b', .int c']) = HH a' b' c' := fun a b c a' b' c' => by rw [hHH, hHH, upd_upd]
  have eH : H = HH a b c := by
    rw [hHH]
    funext x
    by_cases e : x = p
    · rw [e, upd_same, hp]
    · rw [upd_ne e]
  have a0 : ∀ a b c : Int, L2.atI [V.ref l, .int a, .int b, .int c] 0 = some (.ref l) := fun a b c => rfl
  have a1 : ∀ a b c : Int, L2.atI [V.ref l, .int a, .int b, .int c] 1 = some (.int a) := fun a b c => rfl
  have a2 : ∀ a b c : Int, L2.atI [V.ref l, .int a, .int b, .int c] 2 = some (.int b) := fun a b c => rfl
  have a3 : ∀ a b c : Int, L2.atI [V.ref l, .int a, .int b, .int c] 3 = some (.int c) := fun a b c => rfl
  -- the last three statements
  have tail : ∀ (x y : Option V) (a' b' c' : Int), 0 ≤ a' → tSeq (tAsg (tOp (rI (fun _ j => 0 < j) fun i j => .int (i % j)) (tCB (fun xs H Q => (∃ i, xs = [.int i] ∧ Q (.int i) H) ∨ ∃ k, xs = [.bl k] ∧ Q (.int (if k then 1 else 0)) H) (tCons (tOp (rIxL K) (tVar 0) (tC (.int 2))) tNil)) (tVar 1)) (gName 4))
      (tSeq (tAsg (tOp (rI CDivN fun i j => .int (i.fdiv j)) (tOp (rIxL K) (tVar 0) (tC (.int 2))) (tVar 1)) (gSub (tVar 0) (tC (.int 2)) rSetL)) (tRet (tVar 4))) { nx := fun _ H' => Q .non H', rt := Q } [some (.ref p), some (.int m), x, y, none] (HH a' b' c') := fun x y a' b' c' h0 => by
    refine rdp rfl (gp _ _ _) (a2 _ _ _) ?_
    refine .inl ⟨b', rfl, _, rfl, b', m, rfl, rfl, hm, ?_⟩
    refine rdp rfl (gp _ _ _) (a2 _ _ _) ⟨_, rfl, b', m, rfl, rfl, ⟨by omega, by omega⟩, ?_⟩
    refine wrp rfl (gp _ _ _) (n := 2) rfl ?_
    show tRet (tVar 4) _ _ (upd (HH a' b' c') p (.lst [.ref l, .int a', .int (b'.fdiv m), .int c']))
    rw [up]
    refine ⟨_, rfl, ?_⟩
    rw [hHH]
    exact hq _ _ _ _ (Int.emod_nonneg _ (by omega)) (Int.emod_lt_of_pos _ hm) h0
  rw [eH]
  show tSeq _ _ _ [some (.ref p), some (.int m), none, none, none] _
  refine rdp rfl (gp _ _ _) (a2 _ _ _) ⟨b, 2, rfl, rfl, _, rfl, ?_⟩
  refine ite2 (fun c1 => ?_) (fun c1 => ?_)
  · -- a new number
    show tSeq _ _ _ [some (.ref p), some (.int m), some (.int 7), none, none] (HH a b c)
    refine rdp rfl (gp _ _ _) (a1 _ _ _) ?_
    refine rdp rfl (gp _ _ _) (a0 _ _ _) ⟨_, (ns.map V.int).length, rfl, Or.inl ⟨_, SqL.of (gl _ _ _), rfl⟩, ?_⟩
    refine ⟨a, _, rfl, rfl, _, rfl, ?_⟩
    refine ite2 (fun c2 => ?_) (fun c2 => ?_)
    · have c2 : a < ((ns.map V.int).length : Int) := of_decide_eq_true c2
      rw [List.length_map] at c2
      have hj : a.toNat < ns.length := by omega
      have ea : L2.atI (ns.map V.int) a = some (.int ns[a.toNat]) := by
        have q : L2.atI (ns.map V.int) ((a.toNat : Nat) : Int) = some (.int ns[a.toNat]) := by
          rw [K96.atI_cast, List.getElem?_map]
          simp [hj]
        rwa [show ((a.toNat : Nat) : Int) = a by omega] at q
      refine rdp rfl (gp _ _ _) (a0 _ _ _) ?_
      refine rdp rfl (gp _ _ _) (a1 _ _ _) ⟨l, _, a, _, rfl, rfl, SqL.of (gl _ _ _), ea, ?_⟩
      generalize ns[a.toNat] = cl
      unfold gName
      simp only [List.set_cons_succ, List.set_cons_zero]
      refine rdp rfl (gp _ _ _) (a1 _ _ _) ⟨a, 1, rfl, rfl, ?_⟩
      refine wrp rfl (gp _ _ _) (n := 1) rfl ?_
      simp only [List.set_cons_succ, List.set_cons_zero, up]
      refine rdp rfl (gp _ _ _) (a3 _ _ _) ⟨c, 48271, rfl, rfl, .inr ⟨by decide, by decide⟩, ?_⟩
      refine ⟨c * 48271, 11, rfl, rfl, .inl ⟨_, rfl, ?_⟩⟩
      refine ⟨_, 2147483647, rfl, rfl, (by show (0 : Int) < _; decide), ?_⟩
      refine wrp rfl (gp _ _ _) (n := 3) rfl ?_
      simp only [List.set_cons_succ, List.set_cons_zero, up]
      generalize hc3 : (c * 48271 + 11) % 2147483647 = c3
      refine ⟨_, rfl, ?_⟩
      refine wrp rfl (gp _ _ _) (n := 2) rfl ?_
      simp only [List.set_cons_succ, List.set_cons_zero, up]
      refine ⟨_, rfl, 10, 18, rfl, rfl, ⟨by decide, by decide, by decide⟩, cl, _, rfl, rfl, _, rfl, ?_⟩
      refine ite2 (fun c4 => ?_) (fun c4 => ?_)
      · refine ⟨_, rfl, cl, 69621, rfl, rfl, .inr ⟨by decide, by decide⟩, ?_⟩
        refine rdp rfl (gp _ _ _) (a3 _ _ _) ⟨c3, 40692, rfl, rfl, .inr ⟨by decide, by decide⟩, ?_⟩
        refine ⟨_, _, rfl, rfl, ⟨_, 5, rfl, rfl, .inl ⟨_, rfl, ⟨_, 2147483629, rfl, rfl, (by show (0 : Int) < _; decide), ?_⟩⟩⟩⟩
        refine ⟨_, rfl, _, 2147483587, rfl, rfl, .inr ⟨by decide, by decide⟩, ?_⟩
        refine ⟨_, rfl, cl, 16807, rfl, rfl, .inr ⟨by decide, by decide⟩, ?_⟩
        refine rdp rfl (gp _ _ _) (a3 _ _ _) ⟨_, c3, rfl, rfl, .inl ⟨_, rfl, ⟨_, 2147483587, rfl, rfl, (by show (0 : Int) < _; decide), ?_⟩⟩⟩
        refine ⟨_, _, rfl, rfl, ?_⟩
        refine wrp rfl (gp _ _ _) (n := 2) rfl ?_
        simp only [List.set_cons_succ, List.set_cons_zero, up]
        exact tail _ _ _ _ _ (by omega)
      · exact tail _ _ _ _ _ (by omega)
    · show tSeq _ _ _ [some (.ref p), some (.int m), some (.int 7), none, none] (HH a b c)
      refine rdp rfl (gp _ _ _) (a3 _ _ _) ⟨c, 48271, rfl, rfl, .inr ⟨by decide, by decide⟩, ?_⟩
      refine ⟨c * 48271, 11, rfl, rfl, .inl ⟨_, rfl, ?_⟩⟩
      refine ⟨_, 2147483647, rfl, rfl, (by show (0 : Int) < _; decide), ?_⟩
      refine wrp rfl (gp _ _ _) (n := 3) rfl ?_
      simp only [List.set_cons_succ, List.set_cons_zero, up]
      generalize hc3 : (c * 48271 + 11) % 2147483647 = c3
      refine ⟨_, rfl, ?_⟩
      refine wrp rfl (gp _ _ _) (n := 2) rfl ?_
      simp only [List.set_cons_succ, List.set_cons_zero, up]
      refine ⟨_, rfl, 10, 18, rfl, rfl, ⟨by decide, by decide, by decide⟩, 7, _, rfl, rfl, _, rfl, ?_⟩
      refine ite2 (fun c4 => ?_) (fun c4 => ?_)
      · refine ⟨_, rfl, 7, 69621, rfl, rfl, .inr ⟨by decide, by decide⟩, ?_⟩
        refine rdp rfl (gp _ _ _) (a3 _ _ _) ⟨c3, 40692, rfl, rfl, .inr ⟨by decide, by decide⟩, ?_⟩
        refine ⟨_, _, rfl, rfl, ⟨_, 5, rfl, rfl, .inl ⟨_, rfl, ⟨_, 2147483629, rfl, rfl, (by show (0 : Int) < _; decide), ?_⟩⟩⟩⟩
        refine ⟨_, rfl, _, 2147483587, rfl, rfl, .inr ⟨by decide, by decide⟩, ?_⟩
        refine ⟨_, rfl, 7, 16807, rfl, rfl, .inr ⟨by decide, by decide⟩, ?_⟩
        refine rdp rfl (gp _ _ _) (a3 _ _ _) ⟨_, c3, rfl, rfl, .inl ⟨_, rfl, ⟨_, 2147483587, rfl, rfl, (by show (0 : Int) < _; decide), ?_⟩⟩⟩
        refine ⟨_, _, rfl, rfl, ?_⟩
        refine wrp rfl (gp _ _ _) (n := 2) rfl ?_
        simp only [List.set_cons_succ, List.set_cons_zero, up]
        exact tail _ _ _ _ _ ha
      · exact tail _ _ _ _ _ ha
  · exact tail none none a b c ha
end K96
end

section
set_option Elab.async false
set_option linter.all false
set_option maxRecDepth 100000
set_option maxHeartbeats 2000000
namespace K96
open PySem PySem.Spec PyProof.Rows L2 PL
variable {P : Program} {w : World} {K : PySem.W.Frag} {mg : Str → Option Value} {base : Heap}
theorem potO_ok {H : Hp} {h : Heap} {p l : Addr} {a b c : Int} (ha : 0 ≤ a) (x : ObjOk P w H h p (.lst [.ref l, .int a, .int b, .int c])) {H' : Hp} : ObjOk P w H' h p (PotO p l) := by
  obtain ⟨_, its, n, vals, get⟩ := x
  exact ⟨⟨a, b, c, its, n, ha, vals, get⟩, ⟨_, get⟩, fun h1 h2 ⟨a, b, c, its, n, q1, q2, q3⟩ k => ⟨a, b, c, its, n, q1, q2, k _ q3⟩⟩
theorem potO_open {H : Hp} {h : Heap} {p l : Addr} (x : ObjOk P w H h p (PotO p l)) : ∃ a b c : Int, 0 ≤ a ∧ ∀ H' : Hp, ObjOk P w H' h p (.lst [.ref l, .int a, .int b, .int c]) := by
  obtain ⟨⟨a, b, c, its, n, ha, vals, get⟩, _, _⟩ := x
  exact ⟨a, b, c, ha, fun _ => ⟨by show 4 ≤ sizeLine; decide, its, n, vals, get⟩⟩
theorem draw_conv {k : Nat} {f : Addr} {fd : FuncData} (F : FnOk P w K mg base CX0 k f fd ["pot", "many"] spDraw) : FnOk P w K mg base CX0 k f fd ["pot", "many"] (spP K w 2 T__law_draw) := by
  refine ⟨fun vs H Q E ⟨_, ds, _, _, r, hl, _⟩ => by rw [r.length, hl]; rfl, fun A outer s H args us vs Q E hr e0 hb hv ⟨Fr, ds, k, same, r, hl, ⟨m, e, hm, hm2, hk⟩, hp⟩ => ?_⟩
  subst e
  cases r with
  | cons r1 r2 =>
    cases r2 with
    | cons r2 r3 =>
      cases r3
      cases r2
      cases r1 with
      | @pot p l ns h1 h2 =>
        have gp := same _ _ h1
        have gl := same _ _ h2
        have npl : l ≠ p := fun e => by
          rw [e, gp] at gl
          cases gl
        obtain ⟨a, b, c, ha, ok1⟩ := potO_open (e0.hok p _ gp)
        have oth : ∀ {x : Addr} {o : HO} {H1 H2 : Hp} {h : Heap}, x ≠ p → (∀ y, y ≠ p → H1 y = H2 y) → (∀ t, H1 p ≠ some (.own t)) → (∀ t, H1 p ≠ some (.tup t)) → ObjOk P w H1 h x o → ObjOk P w H2 h x o := fun {x o H1 H2 h} ne eq no nt ok => ok.stay (fun d v _ q => q) (fun d q => by
          rw [← eq d (fun z => no _ (by rw [← z]; exact q))]; exact q) fun d xs q => by
          rw [← eq d (fun z => nt _ (by rw [← z]; exact q))]; exact q
        have eqU : ∀ (o : HO) (y : Addr), y ≠ p → H y = upd H p o y := fun o y ne => (upd_ne ne).symm
        have e1 : Env0 P w K mg base A outer s (upd H p (.lst [.ref l, .int a, .int b, .int c])) := ⟨e0.frames, e0.mod, fun x o e => by
            obtain ⟨q1, q2⟩ := e0.bs x o e
            exact ⟨q1, by rw [upd_ne (fun z => by rw [z, gp] at q2; cases q2)]; exact q2⟩, e0.bsz, e0.funs, fun x hx => by
            have q2 := e0.frf x hx
            rw [upd_ne (fun z => by rw [z, gp] at q2; cases q2)]; exact q2, fun x o e => by
            by_cases z : x = p
            · subst z
              rw [upd_same] at e
              cases e
              exact ok1 _
            · rw [upd_ne z] at e
              exact oth z (eqU _) (fun t q => by rw [gp] at q; cases q) (fun t q => by rw [gp] at q; cases q) (e0.hok x o e), e0.bare⟩
        refine codeAny_mono (F.run A outer s _ args us _ (fun v H' => ∃ x a' b' c', v = .int x ∧ 0 ≤ x ∧ x < m ∧ 0 ≤ a' ∧ H' = upd (upd H p (.lst [.ref l, .int a, .int b, .int c])) p (.lst [.ref l, .int a', .int b', .int c'])) E hr e1 hb hv
          ⟨p, l, ns, a, b, c, m, rfl, upd_same, by rw [upd_ne npl]; exact gl, ha, hm, hm2, fun v a' b' c' v1 v2 h0 => ⟨v, a', b', c', rfl, v1, v2, h0, rfl⟩⟩) fun r s' q => ?_
        cases r with
        | error e => exact (show False from q).elim
        | ok fl =>
          cases fl with
          | next => exact False.elim q
          | brk => exact False.elim q
          | cont => exact False.elim q
          | ret u =>
            obtain ⟨v, H', os, bare, un, hok, rv, x, a', b', c', rfl, x0, x1, h0, eH⟩ := q
            rw [upd_upd] at eH
            subst eH
            have ne : ∀ {y : Addr}, H y = none → upd H p (.lst [.ref l, .int a, .int b, .int c]) y = none := fun {y} n => by rw [upd_ne (fun z => by rw [z, gp] at n; cases n)]; exact n
            refine ⟨.int x, H, os, bare, ⟨fun y o e n f x => un.keep y o e (ne n) f x, fun y o e n f x => un.slot y o e (ne n) f x, fun y o e n x => n, un.there, fun _ _ e => e, fun _ _ _ e => e, fun _ ps e => ⟨#[], by rw [e]; simp⟩⟩, fun y o e => ?_, rv, ?_⟩
            · by_cases z : y = p
              · subst z
                rw [gp] at e
                cases e
                exact potO_ok h0 (hok y _ upd_same)
              · exact oth z (fun d hd => upd_ne hd) (fun t q => by rw [upd_same] at q; cases q) (fun t q => by rw [upd_same] at q; cases q) (hok y o (by rw [upd_ne z]; exact e))
            · exact hp (.int x) (.int x) Fr H (hk x x0 x1) (.refl same) (.int x)
theorem ok__law_draw (h : HD P w K mg base) : Cal P w K mg base "_law_draw" 1 2 ["pot", "many"] T__law_draw := by
  obtain ⟨f, fd, F, m⟩ := h.f__law_draw
  exact ⟨f, fd, draw_conv (raw__law_draw h F), m, F.kp, F.bindsN fun _ _ _ _ _ _ us hl => match us, hl with | [_, _], _ => rfl⟩
end K96
end

section
set_option Elab.async false
set_option linter.all false
set_option maxRecDepth 100000
set_option maxHeartbeats 2000000
namespace K96
open PySem PySem.Spec PyProof.Rows L2 PL
variable {P : Program} {w : World} {K : PySem.W.Frag} {mg : Str → Option Value} {base : Heap}
abbrev N__law_some_names : List Str := ["pot", "many", "pool", "step"]
theorem sc__law_some_names : FnScope N__law_some_names ["pot", "many"] (defScope s__law_some_names) := ⟨rfl, rfl, rfl, by decide +kernel, rfl, by decide +kernel, by decide +kernel⟩
theorem er_perm : ∀ (xs : List Str) (j : Nat) (h : j < xs.length), (xs[j] :: xs.eraseIdx j).Perm xs
  | x :: xs, 0, _ => .refl _
  | x :: xs, j + 1, h => (List.Perm.swap ..).trans ((er_perm xs j (Nat.lt_of_succ_lt_succ h)).cons x)
theorem raw__law_some_names (h : HD P w K mg base) {f : Addr} {fd : FuncData} (F : FunD K "_law_some_names" "_law_some_names" (defArgs s__law_some_names) (defBody s__law_some_names) (defScope s__law_some_names) [] [] f fd) : FnOk P w K mg base CX0 2 f fd ["pot", "many"] (spP K w 2 T__law_some_names) := by
  obtain ⟨fdr, fdd, Fd, md, kd, bd⟩ := (ok__law_draw h).ex
  refine F.ok sc__law_some_names (fun vs H Q E ⟨_, ds, _, _, r, hl, _⟩ => by rw [r.length, hl]; rfl) (fun cdv A outer s H vs Q E hr hsp => ?_)
  have nd := sc__law_some_names.nd
  have bl := h.b_len
  have br := h.b_range
  refine' ⟨_, PSs.nox (pss_cons (ps_set (i := 2) nd rfl (Or.inr rfl) (pe_lst (pa_cons pe_str (pa_cons pe_str (pa_cons pe_str (pa_cons pe_str (pa_cons pe_str (pa_cons pe_str (pa_cons pe_str (pa_cons pe_str (pa_cons pe_str (pa_cons pe_str (pa_cons pe_str (pa_cons pe_str pa_nil))))))))))))))
    (pss_one (ps_ret (pe_lc (own := [("step", 3)]) (g := gName 3) (tt := tYes) (te := tBM K "list" rPopAt (tVar 2) (tCons (tCall (spP K w 2 T__law_draw) [] E (tCons (tVar 0) (tCons (tCB (fun xs H Q => ∃ x n, xs = [x] ∧ LenV K x H n ∧ Q (V.int n) H) (tCons (tVar 2) tNil)) tNil))) tNil)) rfl nd _ _ _ _ _)))), _⟩
  case refine'_2 => exact pi_range1 rfl br (pa_cons (pv 1) pa_nil)
  case refine'_3 => exact (blkOk_by (own := [("step", 3)]) (N := N__law_some_names) (sc := defScope s__law_some_names) (by decide +kernel))
  case refine'_4 => exact fun _ _ _ _ _ => pg_name (i := 3) nd rfl (Or.inl rfl) (.inr rfl)
  case refine'_5 => exact fun _ _ _ _ _ => pts_nil
  case refine'_6 =>
    intro x1 x2 x3 x4 x5
    exact pe_bm PySem.F.plainAttrs_list PySem.F.slot_list_pop PySem.F.type_list_pop mt_popAt (pv 2) (pa_cons (pe_call Fd (hr.mono (by decide)) rfl md kd bd .nil pass0 (pa_cons (pv 0) (pa_cons (pe_callB call_len rfl bl boot_len (pa_cons (pv 2) pa_nil)) pa_nil))) pa_nil)
  obtain ⟨F0, ds, k, same, r, hl, ⟨n, e, hn, hk⟩, hp⟩ := hsp
  subst e
  have hv : vs = [vs[0]'(by rw [r.length]; exact Nat.zero_lt_succ _), .int n] := by
    cases r with
    | cons r1 r2 =>
      cases r2 with
      | cons r2 r3 =>
        cases r3
        cases r2
        rfl
  generalize vs[0]'(by rw [r.length]; exact Nat.zero_lt_succ _) = v0 at hv
  subst hv
  have r0 : Rp K w F0 v0 .pot := by
    cases r with
    | cons r1 r2 => exact r1
  refine ⟨by show 12 ≤ sizeLine; decide, fun l hl => ?_⟩
  show tRet (tLc (iRng1 (tCons (tVar 1) tNil)) (gName 3) tYes (tBM K "list" rPopAt (tVar 2) (tCons (tCall (spP K w 2 T__law_draw) [] E (tCons (tVar 0) (tCons (tCB (fun xs H Q => ∃ x n, xs = [x] ∧ LenV K x H n ∧ Q (V.int n) H) (tCons (tVar 2) tNil)) tNil))) tNil)) [3]) { nx := fun x H' => Q V.non H', rt := Q } [some v0, some (.int n), some (.ref l), none] _
  have eP : (HO.lst [V.str "x", V.str "ab", V.str "k7", V.str "zed", V.str "m", V.str "b", V.str "long1234", V.str "a0", V.str "w", V.str "y9", V.str "c", V.str "pq"]) = HO.lst (pool.map V.str) := rfl
  rw [eP]
  have fl : F0 l = none := none_of_same same hl
  refine ⟨_, rfl, n, rfl, by omega, by omega, fun D hD => ?_⟩
  have hDl : D ≠ l := fun z => by rw [z, upd_same] at hD; cases hD
  have hD0 : H D = none := by rw [upd_ne hDl] at hD; exact hD
  have fD : F0 D = none := none_of_same same hD0
  have n0 : Nw F0 H F0 (upd H l (.lst (pool.map V.str))) := .own same hl
  refine ⟨fun i m H' => m = n - i ∧ i ≤ n ∧ ∃ F' acc rest, Nw F0 H F' H' ∧ F' l = none ∧ F' D = none ∧ H' l = some (.lst ((rest : List Str).map V.str)) ∧ H' D = some (.lst ((acc : List Str).map V.str)) ∧ (acc ++ rest).Perm pool ∧ acc.length = i,
    ⟨n, rfl, Nat.zero_le _, F0, [], pool, n0.muto hD0 fD, fl, fD, by rw [upd_ne (Ne.symm hDl), upd_same], upd_same, .refl _, rfl⟩, ?_⟩
  rintro i m H' ⟨rfl, hi, F', acc, rest, nw, fl', fD', gl, gD, hp1, ha⟩
  have tot : acc.length + rest.length = 12 := by
    have := hp1.length_eq
    rw [List.length_append] at this
    exact this
  by_cases hlt : i < n
  · refine .inr ⟨by show i < (n : Int).toNat; omega, fun H3 => ∃ F' acc rest, Nw F0 H F' H3 ∧ F' l = none ∧ F' D = none ∧ H3 l = some (.lst ((rest : List Str).map V.str)) ∧ H3 D = some (.lst ((acc : List Str).map V.str)) ∧ (acc ++ rest).Perm pool ∧ acc.length = i + 1, fun H3 q => ⟨n - (i + 1), by omega, rfl, hlt, q⟩, ?_⟩
    rintro x H3 ⟨rfl, rfl⟩
    refine ⟨rfl, ?_⟩
    show tBM K "list" rPopAt (tVar 2) _ [some v0, some (.int n), some (.ref l), some (.int (0 + i))] H3 _
    refine ⟨.ref l, rfl, .inl ⟨rfl, _, SqL.of gl⟩, ?_⟩
    refine ⟨v0, rfl, .ref l, rfl, .ref l, rest.length, rfl, .inl ⟨_, SqL.of gl, by rw [List.length_map]⟩, ?_⟩
    refine ⟨F', [.pot, .int (rest.length : Nat)], fun d => ∃ v : Int, d = .int v ∧ 0 ≤ v ∧ v < rest.length, nw.fh, .cons (Rp.same nw.ff r0) (.cons (.int _) .nil), rfl, ⟨_, rfl, by omega, by omega, fun v h1 h2 => ⟨v, rfl, h1, h2⟩⟩, ?_⟩
    rintro d v F4 H4 ⟨j, rfl, j0, j1⟩ n4 rv
    cases rv
    have gl4 := n4.hh _ _ gl
    have gD4 := n4.hh _ _ gD
    have hj : j.toNat < rest.length := by omega
    have f4l := n4.nw l _ gl trivial fl'
    have f4D := n4.nw D _ gD trivial fD'
    have nx := nw.trans n4
    refine ⟨l, _, j, j.toNat, .str rest[j.toNat], rfl, rfl, gl4, by omega, by omega, ?_, by rw [List.getElem?_map, List.getElem?_eq_getElem hj]; rfl, ?_⟩
    · unfold seqIndex?
      rw [List.length_map]
      simp only [show ¬ j < 0 by omega, if_false]
      rw [if_pos (by simp; omega)]
    · refine ⟨acc.map V.str, by rw [upd_ne hDl]; exact gD4, ?_, F4, acc ++ [rest[j.toNat]], rest.eraseIdx j.toNat, ?_, f4l, f4D, ?_, ?_, ?_, by simp [ha]⟩
      · rw [List.length_map]
        exact Nat.lt_of_le_of_lt (show acc.length ≤ 12 by omega) (by decide)
      · exact (nx.muto hl f4l).muto hD0 f4D
      · rw [upd_ne (Ne.symm hDl), upd_same]
        congr 2
        rw [List.eraseIdx_eq_take_drop_succ, List.eraseIdx_eq_take_drop_succ, List.map_append, List.map_take, List.map_drop]
      · rw [upd_same]
        simp
      · refine List.Perm.trans ?_ hp1
        rw [List.append_assoc]
        refine List.Perm.append_left acc ?_
        exact (er_perm rest j.toNat hj)
  · have ei : i = n := by omega
    refine .inl ⟨by show (n : Int).toNat ≤ i; omega, ?_⟩
    have nodup : (acc ++ rest).Nodup := hp1.nodup_iff.mpr (by decide +kernel)
    have ok : k (.lst (acc.map PL.D.str)) := hk acc (by omega) (fun x hx => hp1.mem_iff.mp (List.mem_append_left _ hx)) (List.nodup_append.mp nodup).1
    exact hp (.lst (acc.map PL.D.str)) (.ref D) _ _ ok (nw.fz hD0 fD' gD) (.lst upd_same (RpA.of_strs acc))
theorem ok__law_some_names (h : HD P w K mg base) : Cal P w K mg base "_law_some_names" 2 2 ["pot", "many"] T__law_some_names := by
  obtain ⟨f, fd, F, m⟩ := h.f__law_some_names
  exact ⟨f, fd, raw__law_some_names h F, m, F.kp, F.bindsN fun _ _ _ _ _ _ us hl => match us, hl with | [_, _], _ => rfl⟩
end K96
end

section
set_option Elab.async false
set_option linter.all false
set_option maxRecDepth 100000
set_option maxHeartbeats 2000000
namespace K96
open PySem PySem.Spec PyProof.Rows L2 PL
variable {P : Program} {w : World} {K : PySem.W.Frag} {mg : Str → Option Value} {base : Heap}
def spPot0 (K : PySem.W.Frag) : Sp := fun vs H Q _ => ∃ (a : Addr) (ns : List Int), vs = [.ref a] ∧ SqL K H a (ns.map V.int) ∧ ns.length ≤ 1000 ∧
  ∀ (p l : Addr) (ms : List Int) (H' : Hp), Same H H' → H p = none → H l = none → p ≠ l → H' p = some (.lst [.ref l, .int 0, .int 0, .int 1]) → H' l = some (.lst (ms.map V.int)) → Q (.ref p) H'
abbrev N__law_pot : List Str := ["script", "cell"]
theorem sc__law_pot : FnScope N__law_pot ["script"] (defScope s__law_pot) := ⟨rfl, rfl, rfl, by decide +kernel, rfl, by decide +kernel, by decide +kernel⟩
theorem raw__law_pot (h : HD P w K mg base) {f : Addr} {fd : FuncData} (F : FunD K "_law_pot" "_law_pot" (defArgs s__law_pot) (defBody s__law_pot) (defScope s__law_pot) [] [] f fd) : FnOk P w K mg base CX0 1 f fd ["script"] (spPot0 K) := by
  refine F.ok sc__law_pot (fun vs H Q E ⟨a, ns, e, _⟩ => by rw [e]; rfl) (fun cdv A outer s H vs Q E hr hsp => ?_)
  have nd := sc__law_pot.nd
  have ba := h.b_abs
  refine' ⟨_, PSs.nox (pss_one (ps_ret (pe_lst (pa_cons (pe_lc (own := [("cell", 1)]) (g := gName 1) (tt := tYes) (te := tCB (fun xs H Q => ∃ i, xs = [.int i] ∧ Q (.int (if i < 0 then -i else i)) H) (tCons (tVar 1) tNil)) (wi := iList K (tSl (rSlL K) (tVar 0) tNoPart (tPart (tC (.int 63))))) rfl nd _ _ _ _ _) (pa_cons pe_int (pa_cons pe_int (pa_cons pe_int pa_nil))))))), _⟩
  case refine'_1 => exact pi_list (pe_slice sl_list (pv 0) po_none (po_some pe_int))
  case refine'_2 => exact (blkOk_by (own := [("cell", 1)]) (N := N__law_pot) (sc := defScope s__law_pot) (by decide +kernel))
  case refine'_3 => exact fun _ _ _ _ _ => pg_name (i := 1) nd rfl (Or.inl rfl) (.inr rfl)
  case refine'_4 => exact fun _ _ _ _ _ => pts_nil
  case refine'_5 =>
    intro x1 x2 x3 x4 x5
    exact pe_callB call_abs rfl ba boot_abs (pa_cons (pv 1) pa_nil)
  obtain ⟨a, ns, rfl, ha, hn, hq⟩ := hsp
  refine ⟨.ref a, rfl, 63, rfl, a, _, rfl, ha, fun q hq0 => ?_⟩
  obtain ⟨cs, ec, hc⟩ : ∃ cs : List Int, cutV (ns.map V.int) none (some 63) = cs.map V.int ∧ cs.length ≤ 1000 :=
    ⟨(ns.drop (HT.sIx (ns.map V.int).length 0 none)).take (HT.sIx (ns.map V.int).length (ns.map V.int).length (some 63) - HT.sIx (ns.map V.int).length 0 none), by
      unfold cutV
      rw [List.map_take, List.map_drop], by
      rw [List.length_take, List.length_drop]
      omega⟩
  rw [ec]
  refine ⟨q, rfl, ⟨_, SqL.of upd_same⟩, fun D hD => ?_⟩
  have hDq : D ≠ q := fun z => by rw [z, upd_same] at hD; cases hD
  have hD0 : H D = none := by rw [upd_ne hDq] at hD; exact hD
  refine ⟨fun i m H' => m = cs.length - i ∧ i ≤ cs.length ∧ ∃ ms : List Int, ms.length = i ∧ H' = upd (upd H q (.lst (cs.map V.int))) D (.lst (ms.map V.int)), ⟨_, rfl, Nat.zero_le _, [], rfl, rfl⟩, ?_⟩
  rintro i m H' ⟨rfl, hi, ms, hm, rfl⟩
  have gq : ∀ o, upd (upd H q (.lst (cs.map V.int))) D o q = some (.lst (cs.map V.int)) := fun o => by rw [upd_ne (Ne.symm hDq), upd_same]
  by_cases hlt : i < cs.length
  · refine .inr ⟨⟨_, .int cs[i], SqL.of (gq _), by rw [List.getElem?_map, List.getElem?_eq_getElem hlt]; rfl⟩, fun H3 => ∃ ms : List Int, ms.length = i + 1 ∧ H3 = upd (upd H q (.lst (cs.map V.int))) D (.lst (ms.map V.int)), fun H3 q => ⟨_, by omega, rfl, hlt, q⟩, ?_⟩
    rintro x H3 ⟨rfl, hx⟩
    have ex := hx _ (SqL.of (gq _))
    rw [List.getElem?_map, List.getElem?_eq_getElem hlt] at ex
    cases ex
    refine ⟨rfl, ?_⟩
    refine ⟨.int cs[i], rfl, cs[i], rfl, ms.map V.int, upd_same, ?_, ms ++ [if cs[i] < 0 then -cs[i] else cs[i]], by simp [hm], ?_⟩
    · rw [List.length_map]
      exact Nat.lt_of_le_of_lt (show ms.length ≤ 1000 by omega) (by decide)
    · rw [upd_upd]
      simp
  · have ei : i = cs.length := by omega
    refine .inl ⟨⟨_, SqL.of (gq _), by rw [List.length_map]; omega⟩, ?_⟩
    refine ⟨by show 4 ≤ sizeLine; decide, fun p hp => ?_⟩
    have hpD : p ≠ D := fun z => by rw [z, upd_same] at hp; cases hp
    rw [upd_ne hpD] at hp
    have hpq : p ≠ q := fun z => by rw [z, upd_same] at hp; cases hp
    rw [upd_ne hpq] at hp
    refine hq p D ms _ ?_ hp hD0 hpD upd_same (by rw [upd_ne (Ne.symm hpD), upd_same])
    exact (same_new hq0).trans ((same_new hD).trans (same_new (by rw [upd_ne hpD, upd_ne hpq]; exact hp)))
/-- the pot as an invariant -/
def spPot (K : PySem.W.Frag) : Sp := fun vs H Q _ => ∃ (a : Addr) (ns : List Int), vs = [.ref a] ∧ SqL K H a (ns.map V.int) ∧ ns.length ≤ 1000 ∧
  ∀ (p l : Addr) (ms : List Int) (H' : Hp), Same H H' → H p = none → H l = none → p ≠ l → H' p = some (PotO p l) → H' l = some (.lst (ms.map V.int)) → Q (.ref p) H'
theorem pot_conv {k : Nat} {f : Addr} {fd : FuncData} (F : FnOk P w K mg base CX0 k f fd ["script"] (spPot0 K)) : FnOk P w K mg base CX0 k f fd ["script"] (spPot K) := by
  refine ⟨fun vs H Q E ⟨a, ns, e, _⟩ => by rw [e]; rfl, fun A outer s H args us vs Q E hr e0 hb hv ⟨a, ns, e, ha, hn, hq⟩ => ?_⟩
  subst e
  refine codeAny_mono (F.run A outer s H args us _ (fun v H' => ∃ (p l : Addr) (ms : List Int), v = .ref p ∧ Same H H' ∧ H p = none ∧ H l = none ∧ p ≠ l ∧ H' p = some (.lst [.ref l, .int 0, .int 0, .int 1]) ∧ H' l = some (.lst (ms.map V.int))) E hr e0 hb hv
    ⟨a, ns, rfl, ha, hn, fun p l ms H' h1 h2 h3 h4 h5 h6 => ⟨p, l, ms, rfl, h1, h2, h3, h4, h5, h6⟩⟩) fun r s' q => ?_
  cases r with
  | error e => exact (show False from q).elim
  | ok fl =>
    cases fl with
    | next => exact False.elim q
    | brk => exact False.elim q
    | cont => exact False.elim q
    | ret u =>
      obtain ⟨v, H', os, bare, un, hok, rv, p, l, ms, rfl, same, hp, hl, npl, gp, gl⟩ := q
      have eqU : ∀ (o : HO) (y : Addr), y ≠ p → H' y = upd H' p o y := fun o y ne => (upd_ne ne).symm
      refine ⟨.ref p, upd H' p (PotO p l), os, bare, ?_, fun y o e => ?_, rv, ?_⟩
      · have ne : ∀ {y : Addr}, H' y = none → y ≠ p := fun {y} n z => by rw [z, gp] at n; cases n
        have ne2 : ∀ {y : Addr} {o : HO}, H y = some o → y ≠ p := fun {y o} n z => by rw [z, hp] at n; cases n
        exact ⟨un.keep, un.slot, fun y o e n x => by rw [upd_ne (ne (un.free y o e n x))]; exact un.free y o e n x, un.there, fun y xs e => by rw [upd_ne (ne2 e)]; exact un.tups y xs e, fun y o u e => by rw [upd_ne (ne2 e)]; exact un.frzs y o u e, fun y ps e => by rw [upd_ne (ne2 e)]; exact un.tbls y ps e⟩
      · by_cases z : y = p
        · subst z
          rw [upd_same] at e
          cases e
          exact potO_ok (by decide) (hok y _ gp)
        · rw [upd_ne z] at e
          refine (hok y o e).stay (fun d v _ q => q) (fun d q => ?_) fun d xs q => ?_
          · by_cases zz : d = p
            · rw [zz, gp] at q; cases q
            · rw [upd_ne zz]; exact q
          · by_cases zz : d = p
            · rw [zz, gp] at q; cases q
            · rw [upd_ne zz]; exact q
      · exact hq p l ms _ (fun y o e => by rw [upd_ne (fun z => by rw [z, hp] at e; cases e)]; exact same y o e) hp hl npl upd_same (by rw [upd_ne (Ne.symm npl)]; exact gl)
theorem ok__law_pot (h : HD P w K mg base) : ∃ f fd, FnOk P w K mg base CX0 1 f fd ["script"] (spPot K) ∧ mg "_law_pot" = some (.ref f) ∧ PySem.W.keepIn K (.ref f) = true ∧ L2.Binds K fd ["script"] [] := by
  obtain ⟨f, fd, F, m⟩ := h.f__law_pot
  exact ⟨f, fd, pot_conv (raw__law_pot h F), m, F.kp, F.bindsN fun _ _ _ _ _ _ us hl => match us, hl with | [_], _ => rfl⟩
end K96
end

section
set_option Elab.async false
set_option linter.all false
set_option maxRecDepth 100000
set_option maxHeartbeats 0
namespace K96
open PySem PySem.Spec PyProof.Rows L2 PL
variable {P : Program} {w : World} {K : PySem.W.Frag} {mg : Str → Option Value} {base : Heap}
abbrev N_is_whole : List Str := ["value"]
theorem sc_is_whole : FnScope N_is_whole ["value"] (defScope s_is_whole) := ⟨rfl, rfl, rfl, by decide +kernel, rfl, by decide +kernel, by decide +kernel⟩
theorem ok_is_whole (h : HD P w K mg base) : Cal P w K mg base "is_whole" 1 1 ["value"] T_is_whole := by
  obtain ⟨f, fd, F, m⟩ := h.f_is_whole
  exact ⟨f, fd, fnP F sc_is_whole rfl (fun cdv A outer s H E hr => (pxs_one (pxs_ret (px_and (px_isi kit_int rfl h.b_isinstance rfl h.b_int boot_int (pr_var 0)) (px_one (px_not (pr_of (px_isi kit_bl rfl h.b_isinstance rfl h.b_bool boot_bool (pr_var 0))))))))) pure_is_whole, m, F.kp, F.bindsN fun _ _ _ _ _ _ us hl => match us, hl with | [_], _ => rfl⟩
abbrev N_is_name_text : List Str := ["value", "sign"]
theorem sc_is_name_text : FnScope N_is_name_text ["value"] (defScope s_is_name_text) := ⟨rfl, rfl, rfl, by decide +kernel, rfl, by decide +kernel, by decide +kernel⟩
theorem ok_is_name_text (h : HD P w K mg base) : Cal P w K mg base "is_name_text" 1 1 ["value"] T_is_name_text := by
  obtain ⟨f, fd, F, m⟩ := h.f_is_name_text
  obtain ⟨_, g_SMALL⟩ := h.g_SMALL
  obtain ⟨_, g_FIGURES⟩ := h.g_FIGURES
  exact ⟨f, fd, fnP F sc_is_name_text rfl (fun cdv A outer s H E hr => (pxs_cons (pxs_if (pxt_w (pxw_or (pxt_not (pxt_val (px_isi kit_str rfl h.b_isinstance rfl h.b_str boot_str (pr_var 0)))) (pxw_or1 (pxt_not (pxt_chain op_leD op_leD px_int (px_callB cr_len rfl h.b_len boot_len (pxa_cons (pr_var 0) pxa_nil)) px_int))))) (pxs_one (pxs_ret px_bl)) pxs_nil) (pxs_cons (pxs_if (pxt_notIn (u65 hr) (px_ix (u65 hr) (pr_var 0) px_int) (pr_of (px_gstr rfl g_SMALL))) (pxs_one (pxs_ret px_bl)) pxs_nil) (pxs_cons (pxs_for PassesOwn.never rfl (pxi_str (px_var 0)) (pxg_name (i := 1) sc_is_name_text.nd rfl (Or.inl rfl)) (pxs_one (pxs_if (pxt_w (pxw_and (pxt_notIn (u65 hr) (px_var 1) (pr_of (px_gstr rfl g_SMALL))) (pxw_and1 (pxt_notIn (u65 hr) (px_var 1) (pr_of (px_gstr rfl g_FIGURES)))))) (pxs_one (pxs_ret px_bl)) pxs_nil))) (pxs_one (pxs_ret px_bl)))))) pure_is_name_text, m, F.kp, F.bindsN fun _ _ _ _ _ _ us hl => match us, hl with | [_], _ => rfl⟩
abbrev N_is_rising : List Str := ["row", "place"]
theorem sc_is_rising : FnScope N_is_rising ["row"] (defScope s_is_rising) := ⟨rfl, rfl, rfl, by decide +kernel, rfl, by decide +kernel, by decide +kernel⟩
theorem ok_is_rising (h : HD P w K mg base) : Cal P w K mg base "is_rising" 1 1 ["row"] T_is_rising := by
  obtain ⟨f, fd, F, m⟩ := h.f_is_rising
  exact ⟨f, fd, fnP F sc_is_rising rfl (fun cdv A outer s H E hr => (pxs_cons (pxs_for PassesOwn.never rfl (pxi_r2 rfl h.b_range px_int (px_callB cr_len rfl h.b_len boot_len (pxa_cons (pr_var 0) pxa_nil))) (pxg_name (i := 1) sc_is_rising.nd rfl (Or.inl rfl)) (pxs_one (pxs_if (pxt_not (pxt_cmp op_ltD (px_ix (u65 hr) (pr_var 0) (px_bin op_subD (px_var 1) px_int)) (px_ix (u65 hr) (pr_var 0) (px_var 1)))) (pxs_one (pxs_ret px_bl)) pxs_nil))) (pxs_one (pxs_ret px_bl)))) pure_is_rising, m, F.kp, F.bindsN fun _ _ _ _ _ _ us hl => match us, hl with | [_], _ => rfl⟩
abbrev N_is_pair : List Str := ["value"]
theorem sc_is_pair : FnScope N_is_pair ["value"] (defScope s_is_pair) := ⟨rfl, rfl, rfl, by decide +kernel, rfl, by decide +kernel, by decide +kernel⟩
theorem ok_is_pair (h : HD P w K mg base) : Cal P w K mg base "is_pair" 1 1 ["value"] T_is_pair := by
  obtain ⟨f, fd, F, m⟩ := h.f_is_pair
  exact ⟨f, fd, fnP F sc_is_pair rfl (fun cdv A outer s H E hr => (pxs_one (pxs_ret (px_and (px_isi kit_tup rfl h.b_isinstance rfl h.b_tuple boot_tuple (pr_var 0)) (px_one (px_cmp (op_eqD' (u64 hr)) (px_callB cr_len rfl h.b_len boot_len (pxa_cons (pr_var 0) pxa_nil)) px_int)))))) pure_is_pair, m, F.kp, F.bindsN fun _ _ _ _ _ _ us hl => match us, hl with | [_], _ => rfl⟩
abbrev N_is_triple : List Str := ["value"]
theorem sc_is_triple : FnScope N_is_triple ["value"] (defScope s_is_triple) := ⟨rfl, rfl, rfl, by decide +kernel, rfl, by decide +kernel, by decide +kernel⟩
theorem ok_is_triple (h : HD P w K mg base) : Cal P w K mg base "is_triple" 1 1 ["value"] T_is_triple := by
  obtain ⟨f, fd, F, m⟩ := h.f_is_triple
  exact ⟨f, fd, fnP F sc_is_triple rfl (fun cdv A outer s H E hr => (pxs_one (pxs_ret (px_and (px_isi kit_tup rfl h.b_isinstance rfl h.b_tuple boot_tuple (pr_var 0)) (px_one (px_cmp (op_eqD' (u64 hr)) (px_callB cr_len rfl h.b_len boot_len (pxa_cons (pr_var 0) pxa_nil)) px_int)))))) pure_is_triple, m, F.kp, F.bindsN fun _ _ _ _ _ _ us hl => match us, hl with | [_], _ => rfl⟩
abbrev N_class_total : List Str := ["row"]
theorem sc_class_total : FnScope N_class_total ["row"] (defScope s_class_total) := ⟨rfl, rfl, rfl, by decide +kernel, rfl, by decide +kernel, by decide +kernel⟩
theorem ok_class_total (h : HD P w K mg base) : Cal P w K mg base "class_total" 1 1 ["row"] T_class_total := by
  obtain ⟨f, fd, F, m⟩ := h.f_class_total
  exact ⟨f, fd, fnP F sc_class_total rfl (fun cdv A outer s H E hr => (pxs_one (pxs_ret (px_bin op_addD (px_maxDef (u65 hr) rfl rfl h.b_max (pr_var 0) (px_neg px_int)) px_int)))) pure_class_total, m, F.kp, F.bindsN fun _ _ _ _ _ _ us hl => match us, hl with | [_], _ => rfl⟩
abbrev N_numbered : List Str := ["marks", "seen", "row", "mark"]
theorem sc_numbered : FnScope N_numbered ["marks"] (defScope s_numbered) := ⟨rfl, rfl, rfl, by decide +kernel, rfl, by decide +kernel, by decide +kernel⟩
theorem ok_numbered (h : HD P w K mg base) : Cal P w K mg base "numbered" 1 1 ["marks"] T_numbered := by
  obtain ⟨f, fd, F, m⟩ := h.f_numbered
  exact ⟨f, fd, fnP F sc_numbered rfl (fun cdv A outer s H E hr => (pxs_cons (pxs_setF (i := 1) sc_numbered.nd rfl (Or.inl rfl) (pf_lst pxa_nil)) (pxs_cons (pxs_setF (i := 2) sc_numbered.nd rfl (Or.inl rfl) (pf_lst pxa_nil)) (pxs_cons (pxs_for PassesOwn.never rfl (pxi_v 0) (pxg_name (i := 3) sc_numbered.nd rfl (Or.inl rfl)) (pxs_cons (pxs_if (pxt_notIn (u65 hr) (px_var 3) (pr_var 1)) (pxs_one (pxs_app 1 (px_var 3))) pxs_nil) (pxs_one (pxs_app 2 (px_idx (u65 hr) (pr_var 1) (px_var 3)))))) (pxs_one (pxs_ret (px_callTy cr_tuple rfl h.b_tuple boot_tuple (pxa_cons (pr_var 2) pxa_nil)))))))) pure_numbered, m, F.kp, F.bindsN fun _ _ _ _ _ _ us hl => match us, hl with | [_], _ => rfl⟩
abbrev N_refines : List Str := ["one", "other", "i", "j"]
theorem sc_refines : FnScope N_refines ["one", "other"] (defScope s_refines) := ⟨rfl, rfl, rfl, by decide +kernel, rfl, by decide +kernel, by decide +kernel⟩
theorem ok_refines (h : HD P w K mg base) : Cal P w K mg base "refines" 1 2 ["one", "other"] T_refines := by
  obtain ⟨f, fd, F, m⟩ := h.f_refines
  exact ⟨f, fd, fnP F sc_refines rfl (fun cdv A outer s H E hr => (pxs_cons (pxs_for PassesOwn.never rfl (pxi_r1 rfl h.b_range (px_callB cr_len rfl h.b_len boot_len (pxa_cons (pr_var 0) pxa_nil))) (pxg_name (i := 2) sc_refines.nd rfl (Or.inl rfl)) (pxs_one (pxs_for PassesOwn.never rfl (pxi_r1 rfl h.b_range (px_var 2)) (pxg_name (i := 3) sc_refines.nd rfl (Or.inl rfl)) (pxs_one (pxs_if (pxt_w (pxw_and (pxt_cmp (op_eqD' (u64 hr)) (px_ix (u65 hr) (pr_var 0) (px_var 2)) (px_ix (u65 hr) (pr_var 0) (px_var 3))) (pxw_and1 (pxt_cmp (op_neD' (u64 hr)) (px_ix (u65 hr) (pr_var 1) (px_var 2)) (px_ix (u65 hr) (pr_var 1) (px_var 3)))))) (pxs_one (pxs_ret px_bl)) pxs_nil))))) (pxs_one (pxs_ret px_bl)))) pure_refines, m, F.kp, F.bindsN fun _ _ _ _ _ _ us hl => match us, hl with | [_, _], _ => rfl⟩
abbrev N_tidied : List Str := ["few", "ray", "row", "top", "size"]
theorem sc_tidied : FnScope N_tidied ["few", "ray"] (defScope s_tidied) := ⟨rfl, rfl, rfl, by decide +kernel, rfl, by decide +kernel, by decide +kernel⟩
theorem ok_tidied (h : HD P w K mg base) : Cal P w K mg base "tidied" 1 2 ["few", "ray"] T_tidied := by
  obtain ⟨f, fd, F, m⟩ := h.f_tidied
  exact ⟨f, fd, fnP F sc_tidied rfl (fun cdv A outer s H E hr => (pxs_cons (pxs_setF (i := 2) sc_tidied.nd rfl (Or.inl rfl) (pf_sortedSet rfl rfl h.b_sorted rfl h.b_set (pr_var 0))) (pxs_cons (pxs_move (j := 1) (i := 3) sc_tidied.nd rfl (Or.inr rfl)) (pxs_cons (pxs_if (pxt_tru (pr_var 3)) (pxs_cons (pxs_setLc (i := 2) rfl sc_tidied.nd rfl rfl (sw_true rfl rfl rfl (by decide +kernel)) (pxj_v 2) (blkOk_by (own := [("size", 4)]) (N := N_tidied) (sc := defScope s_tidied) (by decide +kernel)) (by decide) (fun _ _ _ _ _ => (ct_name (i := 4) sc_tidied.nd rfl (Or.inl rfl) (.inr rfl))) (fun _ _ _ _ _ => (pxts_one (pxt_cmp op_ltD (px_var 4) (px_var 3)))) (fun _ _ _ _ _ => (px_var 4))) (pxs_one (pxs_while PassesOwn.never (pxt_w (pxw_and (pxt_tru (pr_var 2)) (pxw_and1 (pxt_cmp (op_eqD' (u64 hr)) (px_ix (u65 hr) (pr_var 2) (px_neg px_int)) (px_bin op_subD (px_var 3) px_int))))) (pxs_cons (pxs_popD 2) (pxs_one (pxs_aug (i := 3) sc_tidied.nd rfl (Or.inr rfl) px_int ip_sub)))))) pxs_nil) (pxs_one (pxs_ret (px_tup (pxa_cons (pr_of (px_callTy cr_tuple rfl h.b_tuple boot_tuple (pxa_cons (pr_var 2) pxa_nil))) (pxa_cons (pr_var 3) pxa_nil))))))))) pure_tidied, m, F.kp, F.bindsN fun _ _ _ _ _ _ us hl => match us, hl with | [_, _], _ => rfl⟩
abbrev N_has : List Str := ["sizes", "size", "few", "ray"]
theorem sc_has : FnScope N_has ["sizes", "size"] (defScope s_has) := ⟨rfl, rfl, rfl, by decide +kernel, rfl, by decide +kernel, by decide +kernel⟩
theorem ok_has (h : HD P w K mg base) : Cal P w K mg base "has" 1 2 ["sizes", "size"] T_has := by
  obtain ⟨f, fd, F, m⟩ := h.f_has
  exact ⟨f, fd, fnP F sc_has rfl (fun cdv A outer s H E hr => (pxs_cons (pxs_asg (px_var 0) (pxg_tup (is := [2, 3]) rfl (pgs_cons (pg_name (i := 2) sc_has.nd rfl (Or.inl rfl)) (pgs_cons (pg_name (i := 3) sc_has.nd rfl (Or.inl rfl)) pgs_nil)))) (pxs_one (pxs_ret (px_or (px_in (u65 hr) (px_var 1) (pr_var 2)) (px_one (px_chain op_ltD op_leD px_int (px_var 3) (px_var 1)))))))) pure_has, m, F.kp, F.bindsN fun _ _ _ _ _ _ us hl => match us, hl with | [_, _], _ => rfl⟩
abbrev N_least_of : List Str := ["sizes", "few", "ray"]
theorem sc_least_of : FnScope N_least_of ["sizes"] (defScope s_least_of) := ⟨rfl, rfl, rfl, by decide +kernel, rfl, by decide +kernel, by decide +kernel⟩
theorem ok_least_of (h : HD P w K mg base) : Cal P w K mg base "least_of" 1 1 ["sizes"] T_least_of := by
  obtain ⟨f, fd, F, m⟩ := h.f_least_of
  exact ⟨f, fd, fnP F sc_least_of rfl (fun cdv A outer s H E hr => (pxs_cons (pxs_asg (px_var 0) (pxg_tup (is := [1, 2]) rfl (pgs_cons (pg_name (i := 1) sc_least_of.nd rfl (Or.inl rfl)) (pgs_cons (pg_name (i := 2) sc_least_of.nd rfl (Or.inl rfl)) pgs_nil)))) (pxs_cons (pxs_if (pxt_tru (pr_var 1)) (pxs_one (pxs_ret (px_ix (u65 hr) (pr_var 1) px_int))) pxs_nil) (pxs_one (pxs_retV 2))))) pure_least_of, m, F.kp, F.bindsN fun _ _ _ _ _ _ us hl => match us, hl with | [_], _ => rfl⟩
abbrev N_no_cells : List Str := ["face", "row"]
theorem sc_no_cells : FnScope N_no_cells ["face"] (defScope s_no_cells) := ⟨rfl, rfl, rfl, by decide +kernel, rfl, by decide +kernel, by decide +kernel⟩
theorem ok_no_cells (h : HD P w K mg base) : Cal P w K mg base "no_cells" 1 1 ["face"] T_no_cells := by
  obtain ⟨f, fd, F, m⟩ := h.f_no_cells
  exact ⟨f, fd, fnP F sc_no_cells rfl (fun cdv A outer s H E hr => (pxs_cons (pxs_for PassesOwn.never rfl (pxi_x (px_ix (u65 hr) (pr_var 0) px_int)) (pxg_name (i := 1) sc_no_cells.nd rfl (Or.inl rfl)) (pxs_one (pxs_if (pxt_cmp (op_neD' (u64 hr)) (px_var 1) (px_tup (pxa_cons (pr_of (px_tup pxa_nil)) (pxa_cons (pr_of px_int) pxa_nil)))) (pxs_one (pxs_ret px_bl)) pxs_nil))) (pxs_one (pxs_ret px_bl)))) pure_no_cells, m, F.kp, F.bindsN fun _ _ _ _ _ _ us hl => match us, hl with | [_], _ => rfl⟩
theorem ok_decided_board (h : HD P w K mg base) : Cal P w K mg base "decided_board" 1 1 ["facts"] T_decided_board := by
  obtain ⟨f, fd, F, m⟩ := h.f_decided_board
  exact ⟨f, fd, ⟨fun _ _ _ _ ⟨_, _, _, _, _, _, ht, _⟩ => ht.elim, fun _ _ _ _ _ _ _ _ _ _ _ _ _ ⟨_, _, _, _, _, _, ht, _⟩ => ht.elim⟩, m, F.kp, F.bindsN fun _ _ _ _ _ _ us hl => match us, hl with | [_], _ => rfl⟩
abbrev N_is_shared_question : List Str := ["question"]
theorem sc_is_shared_question : FnScope N_is_shared_question ["question"] (defScope s_is_shared_question) := ⟨rfl, rfl, rfl, by decide +kernel, rfl, by decide +kernel, by decide +kernel⟩
theorem ok_is_shared_question (h : HD P w K mg base) : Cal P w K mg base "is_shared_question" 1 1 ["question"] T_is_shared_question := by
  obtain ⟨f, fd, F, m⟩ := h.f_is_shared_question
  exact ⟨f, fd, fnP F sc_is_shared_question rfl (fun cdv A outer s H E hr => (pxs_one (pxs_ret (px_in (u65 hr) (px_ix (u65 hr) (pr_var 0) px_int) (pr_of (px_tup (pxa_cons (pr_of px_str) (pxa_cons (pr_of px_str) pxa_nil)))))))) pure_is_shared_question, m, F.kp, F.bindsN fun _ _ _ _ _ _ us hl => match us, hl with | [_], _ => rfl⟩
abbrev N_bounds_of : List Str := ["facts", "low", "high", "fact"]
theorem sc_bounds_of : FnScope N_bounds_of ["facts"] (defScope s_bounds_of) := ⟨rfl, rfl, rfl, by decide +kernel, rfl, by decide +kernel, by decide +kernel⟩
theorem ok_bounds_of (h : HD P w K mg base) : Cal P w K mg base "bounds_of" 1 1 ["facts"] T_bounds_of := by
  obtain ⟨f, fd, F, m⟩ := h.f_bounds_of
  exact ⟨f, fd, fnP F sc_bounds_of rfl (fun cdv A outer s H E hr => (pxs_cons (pxs_set (i := 1) sc_bounds_of.nd rfl (Or.inl rfl) px_int) (pxs_cons (pxs_set (i := 2) sc_bounds_of.nd rfl (Or.inl rfl) px_int) (pxs_cons (pxs_for PassesOwn.never rfl (pxi_v 0) (pxg_name (i := 3) sc_bounds_of.nd rfl (Or.inl rfl)) (pxs_cons (pxs_if (pxt_cmp (op_eqD' (u64 hr)) (px_ix (u65 hr) (pr_var 3) px_int) px_str) (pxs_one (pxs_set (i := 1) sc_bounds_of.nd rfl (Or.inl rfl) (px_callB (cr_max2 rfl) rfl h.b_max boot_max (pxa_cons (pr_var 1) (pxa_cons (pr_of (px_ix (u65 hr) (pr_var 3) px_int)) pxa_nil))))) pxs_nil) (pxs_one (pxs_if (pxt_w (pxw_and (pxt_cmp (op_eqD' (u64 hr)) (px_ix (u65 hr) (pr_var 3) px_int) px_str) (pxw_and1 (pxt_w (pxw_or (pxt_cmp (op_eqD' (u64 hr)) (px_var 2) px_int) (pxw_or1 (pxt_cmp op_ltD (px_ix (u65 hr) (pr_var 3) px_int) (px_var 2)))))))) (pxs_one (pxs_set (i := 2) sc_bounds_of.nd rfl (Or.inl rfl) (px_ix (u65 hr) (pr_var 3) px_int))) pxs_nil)))) (pxs_one (pxs_ret (px_tup (pxa_cons (pr_var 1) (pxa_cons (pr_var 2) pxa_nil))))))))) pure_bounds_of, m, F.kp, F.bindsN fun _ _ _ _ _ _ us hl => match us, hl with | [_], _ => rfl⟩
abbrev N_fits : List Str := ["names", "arrangement", "facts", "numbers", "fact", "name", "number"]
theorem sc_fits : FnScope N_fits ["names", "arrangement", "facts"] (defScope s_fits) := ⟨rfl, rfl, rfl, by decide +kernel, rfl, by decide +kernel, by decide +kernel⟩
theorem ok_fits (h : HD P w K mg base) : Cal P w K mg base "fits" 1 3 ["names", "arrangement", "facts"] T_fits := by
  obtain ⟨f, fd, F, m⟩ := h.f_fits
  exact ⟨f, fd, fnP F sc_fits rfl (fun cdv A outer s H E hr => (pxs_cons (pxs_setDc (i := 3) rfl sc_fits.nd rfl rfl (swD_true rfl rfl rfl (by decide +kernel)) (pxj_zip rfl h.b_zip (px_var 0) (px_var 1)) (blkOk_by (own := [("name", 5), ("number", 6)]) (N := N_fits) (sc := defScope s_fits) (by decide +kernel)) (by decide) (fun _ _ _ _ _ => (ct_tup (is := [5, 6]) rfl (pgs_cons (pg_name (i := 5) sc_fits.nd rfl (Or.inl rfl) (.inr rfl)) (pgs_cons (pg_name (i := 6) sc_fits.nd rfl (Or.inl rfl) (.inr rfl)) pgs_nil)))) (fun _ _ _ _ _ => (px_var 5)) (fun _ _ _ _ _ => (px_var 6))) (pxs_cons (pxs_for PassesOwn.never rfl (pxi_v 2) (pxg_name (i := 4) sc_fits.nd rfl (Or.inl rfl)) (pxs_one (pxs_if (pxt_w (pxw_and (pxt_in (u65 hr) (px_ix (u65 hr) (pr_var 4) px_int) (pr_of (px_tup (pxa_cons (pr_of px_str) (pxa_cons (pr_of px_str) pxa_nil))))) (pxw_and (pxt_in (u65 hr) (px_ix (u65 hr) (pr_var 4) px_int) (pr_var 3)) (pxw_and1 (pxt_in (u65 hr) (px_ix (u65 hr) (pr_var 4) px_int) (pr_var 3)))))) (pxs_one (pxs_if (pxt_cmp op_neB (px_cmp (op_eqD' (u64 hr)) (px_ix (u65 hr) (pr_var 3) (px_ix (u65 hr) (pr_var 4) px_int)) (px_ix (u65 hr) (pr_var 3) (px_ix (u65 hr) (pr_var 4) px_int))) (px_cmp (op_eqD' (u64 hr)) (px_ix (u65 hr) (pr_var 4) px_int) px_str)) (pxs_one (pxs_ret px_bl)) pxs_nil)) pxs_nil))) (pxs_one (pxs_ret px_bl))))) pure_fits, m, F.kp, F.bindsN fun _ _ _ _ _ _ us hl => match us, hl with | [_, _, _], _ => rfl⟩
abbrev N_greatest_mark : List Str := ["faces", "most", "face", "few", "ray"]
theorem sc_greatest_mark : FnScope N_greatest_mark ["faces"] (defScope s_greatest_mark) := ⟨rfl, rfl, rfl, by decide +kernel, rfl, by decide +kernel, by decide +kernel⟩
theorem ok_greatest_mark (h : HD P w K mg base) : Cal P w K mg base "greatest_mark" 1 1 ["faces"] T_greatest_mark := by
  obtain ⟨f, fd, F, m⟩ := h.f_greatest_mark
  exact ⟨f, fd, fnP F sc_greatest_mark rfl (fun cdv A outer s H E hr => (pxs_cons (pxs_set (i := 1) sc_greatest_mark.nd rfl (Or.inl rfl) px_int) (pxs_cons (pxs_for PassesOwn.never rfl (pxi_v 0) (pxg_name (i := 2) sc_greatest_mark.nd rfl (Or.inl rfl)) (pxs_one (pxs_for PassesOwn.never rfl (pxi_x (px_ix (u65 hr) (pr_var 2) px_int)) (pxg_tup (is := [3, 4]) rfl (pgs_cons (pg_name (i := 3) sc_greatest_mark.nd rfl (Or.inl rfl)) (pgs_cons (pg_name (i := 4) sc_greatest_mark.nd rfl (Or.inl rfl)) pgs_nil))) (pxs_one (pxs_set (i := 1) sc_greatest_mark.nd rfl (Or.inl rfl) (px_callB (cr_max3 rfl) rfl h.b_max boot_max (pxa_cons (pr_var 1) (pxa_cons (pr_var 4) (pxa_cons (pr_of (px_maxDef (u65 hr) rfl rfl h.b_max (pr_var 3) px_int)) pxa_nil))))))))) (pxs_one (pxs_ret (px_callB (cr_min2 rfl) rfl h.b_min boot_min (pxa_cons (pr_var 1) (pxa_cons (pr_of px_int) pxa_nil)))))))) pure_greatest_mark, m, F.kp, F.bindsN fun _ _ _ _ _ _ us hl => match us, hl with | [_], _ => rfl⟩
abbrev N_has_some : List Str := ["row", "low", "high", "few", "ray", "size"]
theorem sc_has_some : FnScope N_has_some ["row", "low", "high"] (defScope s_has_some) := ⟨rfl, rfl, rfl, by decide +kernel, rfl, by decide +kernel, by decide +kernel⟩
theorem ok_has_some (h : HD P w K mg base) : Cal P w K mg base "has_some" 1 3 ["row", "low", "high"] T_has_some := by
  obtain ⟨f, fd, F, m⟩ := h.f_has_some
  exact ⟨f, fd, fnP F sc_has_some rfl (fun cdv A outer s H E hr => (pxs_cons (pxs_asg (px_var 0) (pxg_tup (is := [3, 4]) rfl (pgs_cons (pg_name (i := 3) sc_has_some.nd rfl (Or.inl rfl)) (pgs_cons (pg_name (i := 4) sc_has_some.nd rfl (Or.inl rfl)) pgs_nil)))) (pxs_cons (pxs_if (pxt_w (pxw_and (pxt_tru (pr_var 4)) (pxw_and1 (pxt_w (pxw_or (pxt_cmp (op_eqD' (u64 hr)) (px_var 2) px_int) (pxw_or1 (pxt_cmp op_leD (px_var 4) (px_var 2)))))))) (pxs_one (pxs_ret px_bl)) pxs_nil) (pxs_cons (pxs_for PassesOwn.never rfl (pxi_v 3) (pxg_name (i := 5) sc_has_some.nd rfl (Or.inl rfl)) (pxs_one (pxs_if (pxt_w (pxw_and (pxt_cmp op_leD (px_var 1) (px_var 5)) (pxw_and1 (pxt_w (pxw_or (pxt_cmp (op_eqD' (u64 hr)) (px_var 2) px_int) (pxw_or1 (pxt_cmp op_leD (px_var 5) (px_var 2)))))))) (pxs_one (pxs_ret px_bl)) pxs_nil))) (pxs_one (pxs_ret px_bl)))))) pure_has_some, m, F.kp, F.bindsN fun _ _ _ _ _ _ us hl => match us, hl with | [_, _, _], _ => rfl⟩
abbrev N_name_partings : List Str := ["state", "names", "told", "low", "high", "rows", "i", "j", "like", "unlike", "arrangement"]
theorem sc_name_partings : FnScope N_name_partings ["state", "names"] (defScope s_name_partings) := ⟨rfl, rfl, rfl, by decide +kernel, rfl, by decide +kernel, by decide +kernel⟩
theorem ok_name_partings (h : HD P w K mg base) : Cal P w K mg base "name_partings" 1 2 ["state", "names"] T_name_partings := by
  obtain ⟨f, fd, F, m⟩ := h.f_name_partings
  exact ⟨f, fd, fnP F sc_name_partings rfl (fun cdv A outer s H E hr => (pxs_cons (pxs_asg (px_var 0) (pxg_tup (is := [2, 3, 4]) rfl (pgs_cons (pg_name (i := 2) sc_name_partings.nd rfl (Or.inl rfl)) (pgs_cons (pg_name (i := 3) sc_name_partings.nd rfl (Or.inl rfl)) (pgs_cons (pg_name (i := 4) sc_name_partings.nd rfl (Or.inl rfl)) pgs_nil))))) (pxs_cons (pxs_setF (i := 5) sc_name_partings.nd rfl (Or.inl rfl) (pf_lst pxa_nil)) (pxs_cons (pxs_for PassesOwn.never rfl (pxi_r1 rfl h.b_range (px_callB cr_len rfl h.b_len boot_len (pxa_cons (pr_var 1) pxa_nil))) (pxg_name (i := 6) sc_name_partings.nd rfl (Or.inr rfl)) (pxs_one (pxs_for PassesOwn.never rfl (pxi_r2 rfl h.b_range (px_bin op_addD (px_var 6) px_int) (px_callB cr_len rfl h.b_len boot_len (pxa_cons (pr_var 1) pxa_nil))) (pxg_name (i := 7) sc_name_partings.nd rfl (Or.inr rfl)) (pxs_cons (pxs_set (i := 8) sc_name_partings.nd rfl (Or.inl rfl) (px_callTy cr_tuple rfl h.b_tuple boot_tuple (pxa_cons (pr_of (px_of (pf_lc rfl sc_name_partings.nd (pxj_v 2) (blkOk_by (own := [("arrangement", 10)]) (N := N_name_partings) (sc := defScope s_name_partings) (by decide +kernel)) (by decide) (fun _ _ _ _ _ => (ct_name (i := 10) sc_name_partings.nd rfl (Or.inl rfl) (.inr rfl))) (fun _ _ _ _ _ => (pxts_one (pxt_cmp (op_eqD' (u64 hr)) (px_ix (u65 hr) (pr_var 10) (px_var 6)) (px_ix (u65 hr) (pr_var 10) (px_var 7))))) (fun _ _ _ _ _ => (px_var 10))))) pxa_nil))) (pxs_cons (pxs_set (i := 9) sc_name_partings.nd rfl (Or.inl rfl) (px_callTy cr_tuple rfl h.b_tuple boot_tuple (pxa_cons (pr_of (px_of (pf_lc rfl sc_name_partings.nd (pxj_v 2) (blkOk_by (own := [("arrangement", 10)]) (N := N_name_partings) (sc := defScope s_name_partings) (by decide +kernel)) (by decide) (fun _ _ _ _ _ => (ct_name (i := 10) sc_name_partings.nd rfl (Or.inl rfl) (.inr rfl))) (fun _ _ _ _ _ => (pxts_one (pxt_cmp (op_neD' (u64 hr)) (px_ix (u65 hr) (pr_var 10) (px_var 6)) (px_ix (u65 hr) (pr_var 10) (px_var 7))))) (fun _ _ _ _ _ => (px_var 10))))) pxa_nil))) (pxs_one (pxs_if (pxt_w (pxw_and (pxt_tru (pr_var 8)) (pxw_and1 (pxt_tru (pr_var 9))))) (pxs_one (pxs_app 5 (px_tup (pxa_cons (pr_of (px_tup (pxa_cons (pr_of px_str) (pxa_cons (pr_of (px_ix (u65 hr) (pr_var 1) (px_var 6))) (pxa_cons (pr_of (px_ix (u65 hr) (pr_var 1) (px_var 7))) pxa_nil))))) (pxa_cons (pr_of (px_tup (pxa_cons (pr_var 8) (pxa_cons (pr_var 3) (pxa_cons (pr_var 4) pxa_nil))))) (pxa_cons (pr_of (px_tup (pxa_cons (pr_var 9) (pxa_cons (pr_var 3) (pxa_cons (pr_var 4) pxa_nil))))) pxa_nil)))))) pxs_nil))))))) (pxs_one (pxs_retV 5)))))) pure_name_partings, m, F.kp, F.bindsN fun _ _ _ _ _ _ us hl => match us, hl with | [_, _], _ => rfl⟩
abbrev N_size_partings : List Str := ["state", "mark", "told", "low", "high", "last", "size"]
theorem sc_size_partings : FnScope N_size_partings ["state", "mark"] (defScope s_size_partings) := ⟨rfl, rfl, rfl, by decide +kernel, rfl, by decide +kernel, by decide +kernel⟩
theorem ok_size_partings (h : HD P w K mg base) : Cal P w K mg base "size_partings" 1 2 ["state", "mark"] T_size_partings := by
  obtain ⟨f, fd, F, m⟩ := h.f_size_partings
  exact ⟨f, fd, fnP F sc_size_partings rfl (fun cdv A outer s H E hr => (pxs_cons (pxs_asg (px_var 0) (pxg_tup (is := [2, 3, 4]) rfl (pgs_cons (pg_name (i := 2) sc_size_partings.nd rfl (Or.inr rfl)) (pgs_cons (pg_name (i := 3) sc_size_partings.nd rfl (Or.inr rfl)) (pgs_cons (pg_name (i := 4) sc_size_partings.nd rfl (Or.inr rfl)) pgs_nil))))) (pxs_cons (pxs_move (j := 1) (i := 5) sc_size_partings.nd rfl (Or.inl rfl)) (pxs_cons (pxs_if (pxt_w (pxw_and (pxt_tru (pr_var 4)) (pxw_and1 (pxt_cmp op_ltD (px_bin op_subD (px_var 4) px_int) (px_var 1))))) (pxs_one (pxs_set (i := 5) sc_size_partings.nd rfl (Or.inl rfl) (px_bin op_subD (px_var 4) px_int))) pxs_nil) (pxs_one (pxs_ret (px_of (pf_lc rfl sc_size_partings.nd (pxj_r2 rfl h.b_range (px_var 3) (px_bin op_addD (px_var 5) px_int)) (blkOk_by (own := [("size", 6)]) (N := N_size_partings) (sc := defScope s_size_partings) (by decide +kernel)) (by decide) (fun _ _ _ _ _ => (ct_name (i := 6) sc_size_partings.nd rfl (Or.inl rfl) (.inr rfl))) (fun _ _ _ _ _ => pxts_nil) (fun _ _ _ _ _ => (px_tup (pxa_cons (pr_of (px_tup (pxa_cons (pr_of px_str) (pxa_cons (pr_var 6) pxa_nil)))) (pxa_cons (pr_of (px_tup (pxa_cons (pr_var 2) (pxa_cons (pr_var 3) (pxa_cons (pr_var 6) pxa_nil))))) (pxa_cons (pr_of (px_tup (pxa_cons (pr_var 2) (pxa_cons (pr_of (px_bin op_addD (px_var 6) px_int)) (pxa_cons (pr_var 4) pxa_nil))))) pxa_nil))))))))))))) pure_size_partings, m, F.kp, F.bindsN fun _ _ _ _ _ _ us hl => match us, hl with | [_, _], _ => rfl⟩
abbrev N_width : List Str := ["state", "mark", "told", "low", "high", "top"]
theorem sc_width : FnScope N_width ["state", "mark"] (defScope s_width) := ⟨rfl, rfl, rfl, by decide +kernel, rfl, by decide +kernel, by decide +kernel⟩
theorem ok_width (h : HD P w K mg base) : Cal P w K mg base "width" 1 2 ["state", "mark"] T_width := by
  obtain ⟨f, fd, F, m⟩ := h.f_width
  exact ⟨f, fd, fnP F sc_width rfl (fun cdv A outer s H E hr => (pxs_cons (pxs_asg (px_var 0) (pxg_tup (is := [2, 3, 4]) rfl (pgs_cons (pg_name (i := 2) sc_width.nd rfl (Or.inl rfl)) (pgs_cons (pg_name (i := 3) sc_width.nd rfl (Or.inl rfl)) (pgs_cons (pg_name (i := 4) sc_width.nd rfl (Or.inl rfl)) pgs_nil))))) (pxs_cons (pxs_move (j := 4) (i := 5) sc_width.nd rfl (Or.inl rfl)) (pxs_cons (pxs_if (pxt_cmp (op_eqD' (u64 hr)) (px_var 4) px_int) (pxs_one (pxs_set (i := 5) sc_width.nd rfl (Or.inl rfl) (px_bin op_addD (px_var 1) px_int))) pxs_nil) (pxs_one (pxs_ret (px_bin op_subD (px_bin op_addD (px_callB cr_len rfl h.b_len boot_len (pxa_cons (pr_var 2) pxa_nil)) (px_var 5)) (px_var 3)))))))) pure_width, m, F.kp, F.bindsN fun _ _ _ _ _ _ us hl => match us, hl with | [_, _], _ => rfl⟩
abbrev N_ends_of : List Str := ["tree", "number", "waiting", "here"]
theorem sc_ends_of : FnScope N_ends_of ["tree"] (defScope s_ends_of) := ⟨rfl, rfl, rfl, by decide +kernel, rfl, by decide +kernel, by decide +kernel⟩
theorem ok_ends_of (h : HD P w K mg base) : Cal P w K mg base "ends_of" 1 1 ["tree"] T_ends_of := by
  obtain ⟨f, fd, F, m⟩ := h.f_ends_of
  exact ⟨f, fd, fnP F sc_ends_of rfl (fun cdv A outer s H E hr => (pxs_cons (pxs_set (i := 1) sc_ends_of.nd rfl (Or.inl rfl) px_int) (pxs_cons (pxs_setF (i := 2) sc_ends_of.nd rfl (Or.inl rfl) (pf_lst (pxa_cons (pr_var 0) pxa_nil))) (pxs_cons (pxs_while PassesOwn.never (pxt_tru (pr_var 2)) (pxs_cons (pxs_pop 2 (pxg_name (i := 3) sc_ends_of.nd rfl (Or.inl rfl))) (pxs_one (pxs_if (pxt_cmp (op_eqD' (u64 hr)) (px_ix (u65 hr) (pr_var 3) px_int) px_str) (pxs_one (pxs_aug (i := 1) sc_ends_of.nd rfl (Or.inl rfl) px_int ip_add)) (pxs_one (pxs_ext 2 (px_ix (u65 hr) (pr_var 3) px_int))))))) (pxs_one (pxs_retV 1)))))) pure_ends_of, m, F.kp, F.bindsN fun _ _ _ _ _ _ us hl => match us, hl with | [_], _ => rfl⟩
abbrev N__law_arrangements : List Str := ["count", "rows", "step", "more", "row", "number"]
theorem sc__law_arrangements : FnScope N__law_arrangements ["count"] (defScope s__law_arrangements) := ⟨rfl, rfl, rfl, by decide +kernel, rfl, by decide +kernel, by decide +kernel⟩
theorem ok__law_arrangements (h : HD P w K mg base) : Cal P w K mg base "_law_arrangements" 1 1 ["count"] T__law_arrangements := by
  obtain ⟨f, fd, F, m⟩ := h.f__law_arrangements
  exact ⟨f, fd, fnP F sc__law_arrangements rfl (fun cdv A outer s H E hr => (pxs_cons (pxs_setF (i := 1) sc__law_arrangements.nd rfl (Or.inl rfl) (pf_lst (pxa_cons (pr_of (px_tup pxa_nil)) pxa_nil))) (pxs_cons (pxs_for PassesOwn.never rfl (pxi_r1 rfl h.b_range (px_var 0)) (pxg_name (i := 2) sc__law_arrangements.nd rfl (Or.inl rfl)) (pxs_cons (pxs_setF (i := 3) sc__law_arrangements.nd rfl (Or.inl rfl) (pf_lst pxa_nil)) (pxs_cons (pxs_for PassesOwn.never rfl (pxi_v 1) (pxg_name (i := 4) sc__law_arrangements.nd rfl (Or.inr rfl)) (pxs_one (pxs_ext 3 (px_of (pf_lc rfl sc__law_arrangements.nd (pxj_r1 rfl h.b_range (px_bin op_addD (px_lenSet rfl rfl h.b_len rfl h.b_set (pr_var 4)) px_int)) (blkOk_by (own := [("number", 5)]) (N := N__law_arrangements) (sc := defScope s__law_arrangements) (by decide +kernel)) (by decide) (fun _ _ _ _ _ => (ct_name (i := 5) sc__law_arrangements.nd rfl (Or.inl rfl) (.inr rfl))) (fun _ _ _ _ _ => pxts_nil) (fun _ _ _ _ _ => (px_bin op_addD (px_var 4) (px_tup (pxa_cons (pr_var 5) pxa_nil))))))))) (pxs_one (pxs_move (j := 3) (i := 1) sc__law_arrangements.nd rfl (Or.inl rfl)))))) (pxs_one (pxs_retV 1))))) pure__law_arrangements, m, F.kp, F.bindsN fun _ _ _ _ _ _ us hl => match us, hl with | [_], _ => rfl⟩
abbrev N__law_has : List Str := ["row", "size"]
theorem sc__law_has : FnScope N__law_has ["row", "size"] (defScope s__law_has) := ⟨rfl, rfl, rfl, by decide +kernel, rfl, by decide +kernel, by decide +kernel⟩
theorem ok__law_has (h : HD P w K mg base) : Cal P w K mg base "_law_has" 1 2 ["row", "size"] T__law_has := by
  obtain ⟨f, fd, F, m⟩ := h.f__law_has
  exact ⟨f, fd, fnP F sc__law_has rfl (fun cdv A outer s H E hr => (pxs_one (pxs_ret (px_or (px_in (u65 hr) (px_var 1) (pr_of (px_ix (u65 hr) (pr_var 0) px_int))) (px_one (px_chain op_ltD op_leD px_int (px_ix (u65 hr) (pr_var 0) px_int) (px_var 1))))))) pure__law_has, m, F.kp, F.bindsN fun _ _ _ _ _ _ us hl => match us, hl with | [_, _], _ => rfl⟩
abbrev N__law_row_of : List Str := ["members", "ray", "few", "top", "turn", "size"]
theorem sc__law_row_of : FnScope N__law_row_of ["members", "ray"] (defScope s__law_row_of) := ⟨rfl, rfl, rfl, by decide +kernel, rfl, by decide +kernel, by decide +kernel⟩
theorem ok__law_row_of (h : HD P w K mg base) : Cal P w K mg base "_law_row_of" 1 2 ["members", "ray"] T__law_row_of := by
  obtain ⟨f, fd, F, m⟩ := h.f__law_row_of
  exact ⟨f, fd, fnP F sc__law_row_of rfl (fun cdv A outer s H E hr => (pxs_cons (pxs_setF (i := 2) sc__law_row_of.nd rfl (Or.inl rfl) (pf_sortedSet rfl rfl h.b_sorted rfl h.b_set (pr_var 0))) (pxs_cons (pxs_move (j := 1) (i := 3) sc__law_row_of.nd rfl (Or.inr rfl)) (pxs_cons (pxs_if (pxt_cmp op_gtD (px_var 3) px_int) (pxs_cons (pxs_setLc (i := 2) rfl sc__law_row_of.nd rfl rfl (sw_true rfl rfl rfl (by decide +kernel)) (pxj_v 2) (blkOk_by (own := [("size", 5)]) (N := N__law_row_of) (sc := defScope s__law_row_of) (by decide +kernel)) (by decide) (fun _ _ _ _ _ => (ct_name (i := 5) sc__law_row_of.nd rfl (Or.inl rfl) (.inr rfl))) (fun _ _ _ _ _ => (pxts_one (pxt_cmp op_ltD (px_var 5) (px_var 3)))) (fun _ _ _ _ _ => (px_var 5))) (pxs_one (pxs_for PassesOwn.never rfl (pxi_r1 rfl h.b_range (px_callB cr_len rfl h.b_len boot_len (pxa_cons (pr_var 2) pxa_nil))) (pxg_name (i := 4) sc__law_row_of.nd rfl (Or.inl rfl)) (pxs_one (pxs_if (pxt_w (pxw_and (pxt_tru (pr_var 2)) (pxw_and1 (pxt_cmp (op_eqD' (u64 hr)) (px_ix (u65 hr) (pr_var 2) (px_neg px_int)) (px_bin op_subD (px_var 3) px_int))))) (pxs_cons (pxs_setF (i := 2) sc__law_row_of.nd rfl (Or.inl rfl) (pf_init (pr_var 2))) (pxs_one (pxs_set (i := 3) sc__law_row_of.nd rfl (Or.inr rfl) (px_bin op_subD (px_var 3) px_int)))) pxs_nil))))) pxs_nil) (pxs_one (pxs_ret (px_tup (pxa_cons (pr_of (px_callTy cr_tuple rfl h.b_tuple boot_tuple (pxa_cons (pr_var 2) pxa_nil))) (pxa_cons (pr_var 3) pxa_nil))))))))) pure__law_row_of, m, F.kp, F.bindsN fun _ _ _ _ _ _ us hl => match us, hl with | [_, _], _ => rfl⟩
abbrev N__law_no_cell : List Str := ["face", "row"]
theorem sc__law_no_cell : FnScope N__law_no_cell ["face"] (defScope s__law_no_cell) := ⟨rfl, rfl, rfl, by decide +kernel, rfl, by decide +kernel, by decide +kernel⟩
theorem ok__law_no_cell (h : HD P w K mg base) : Cal P w K mg base "_law_no_cell" 1 1 ["face"] T__law_no_cell := by
  obtain ⟨f, fd, F, m⟩ := h.f__law_no_cell
  exact ⟨f, fd, fnP F sc__law_no_cell rfl (fun cdv A outer s H E hr => (pxs_one (pxs_ret (px_not (pr_of (px_of (pf_lc rfl sc__law_no_cell.nd (pxj_x (px_ix (u65 hr) (pr_var 0) px_int)) (blkOk_by (own := [("row", 1)]) (N := N__law_no_cell) (sc := defScope s__law_no_cell) (by decide +kernel)) (by decide) (fun _ _ _ _ _ => (ct_name (i := 1) sc__law_no_cell.nd rfl (Or.inl rfl) (.inr rfl))) (fun _ _ _ _ _ => (pxts_one (pxt_cmp (op_neD' (u64 hr)) (px_var 1) (px_tup (pxa_cons (pr_of (px_tup pxa_nil)) (pxa_cons (pr_of px_int) pxa_nil)))))) (fun _ _ _ _ _ => (px_var 1))))))))) pure__law_no_cell, m, F.kp, F.bindsN fun _ _ _ _ _ _ us hl => match us, hl with | [_], _ => rfl⟩
abbrev N__law_same_marks : List Str := ["marks", "seen", "mark"]
theorem sc__law_same_marks : FnScope N__law_same_marks ["marks"] (defScope s__law_same_marks) := ⟨rfl, rfl, rfl, by decide +kernel, rfl, by decide +kernel, by decide +kernel⟩
theorem ok__law_same_marks (h : HD P w K mg base) : Cal P w K mg base "_law_same_marks" 1 1 ["marks"] T__law_same_marks := by
  obtain ⟨f, fd, F, m⟩ := h.f__law_same_marks
  exact ⟨f, fd, fnP F sc__law_same_marks rfl (fun cdv A outer s H E hr => (pxs_cons (pxs_setF (i := 1) sc__law_same_marks.nd rfl (Or.inr rfl) (pf_sortedSet rfl rfl h.b_sorted rfl h.b_set (pr_of (px_of (pf_lc rfl sc__law_same_marks.nd (pxj_v 0) (blkOk_by (own := [("mark", 2)]) (N := N__law_same_marks) (sc := defScope s__law_same_marks) (by decide +kernel)) (by decide) (fun _ _ _ _ _ => (ct_name (i := 2) sc__law_same_marks.nd rfl (Or.inl rfl) (.inr rfl))) (fun _ _ _ _ _ => pxts_nil) (fun _ _ _ _ _ => (px_idx (u65 hr) (pr_var 0) (px_var 2)))))))) (pxs_one (pxs_ret (px_callTy cr_tuple rfl h.b_tuple boot_tuple (pxa_cons (pr_of (px_of (pf_lc rfl sc__law_same_marks.nd (pxj_v 0) (blkOk_by (own := [("mark", 2)]) (N := N__law_same_marks) (sc := defScope s__law_same_marks) (by decide +kernel)) (by decide) (fun _ _ _ _ _ => (ct_name (i := 2) sc__law_same_marks.nd rfl (Or.inl rfl) (.inr rfl))) (fun _ _ _ _ _ => pxts_nil) (fun _ _ _ _ _ => (px_idx (u65 hr) (pr_var 1) (px_idx (u65 hr) (pr_var 0) (px_var 2))))))) pxa_nil)))))) pure__law_same_marks, m, F.kp, F.bindsN fun _ _ _ _ _ _ us hl => match us, hl with | [_], _ => rfl⟩
abbrev N__law_likes : List Str := ["steps", "names", "known", "rows", "place", "told", "one", "other", "gone", "mark"]
theorem sc__law_likes : FnScope N__law_likes ["steps", "names"] (defScope s__law_likes) := ⟨rfl, rfl, rfl, by decide +kernel, rfl, by decide +kernel, by decide +kernel⟩
theorem ok__law_likes (h : HD P w K mg base) : Cal P w K mg base "_law_likes" 1 2 ["steps", "names"] T__law_likes := by
  obtain ⟨f, fd, F, m⟩ := h.f__law_likes
  exact ⟨f, fd, fnP F sc__law_likes rfl (fun cdv A outer s H E hr => (pxs_cons (pxs_setF (i := 2) sc__law_likes.nd rfl (Or.inr rfl) (pf_listRg1 rfl rfl h.b_list rfl h.b_range (px_callB cr_len rfl h.b_len boot_len (pxa_cons (pr_var 1) pxa_nil)))) (pxs_cons (pxs_setF (i := 3) sc__law_likes.nd rfl (Or.inl rfl) (pf_lst pxa_nil)) (pxs_cons (pxs_for PassesOwn.never rfl (pxi_v 0) (pxg_tup (is := [4, 5]) rfl (pgs_cons (pg_name (i := 4) sc__law_likes.nd rfl (Or.inl rfl)) (pgs_cons (pg_name (i := 5) sc__law_likes.nd rfl (Or.inl rfl)) pgs_nil))) (pxs_one (pxs_for PassesOwn.never rfl (pxi_r1 rfl h.b_range (px_callB cr_len rfl h.b_len boot_len (pxa_cons (pr_var 1) pxa_nil))) (pxg_name (i := 6) sc__law_likes.nd rfl (Or.inr rfl)) (pxs_one (pxs_for PassesOwn.never rfl (pxi_r2 rfl h.b_range (px_bin op_addD (px_var 6) px_int) (px_callB cr_len rfl h.b_len boot_len (pxa_cons (pr_var 1) pxa_nil))) (pxg_name (i := 7) sc__law_likes.nd rfl (Or.inl rfl)) (pxs_one (pxs_if (pxt_w (pxw_and (pxt_cmp (op_eqD' (u64 hr)) (px_ix (u65 hr) (pr_var 5) (px_var 6)) (px_ix (u65 hr) (pr_var 5) (px_var 7))) (pxw_and1 (pxt_cmp (op_neD' (u64 hr)) (px_ix (u65 hr) (pr_var 2) (px_var 6)) (px_ix (u65 hr) (pr_var 2) (px_var 7)))))) (pxs_cons (pxs_set (i := 8) sc__law_likes.nd rfl (Or.inr rfl) (px_ix (u65 hr) (pr_var 2) (px_var 7))) (pxs_cons (pxs_setF (i := 2) sc__law_likes.nd rfl (Or.inr rfl) (pf_lc rfl sc__law_likes.nd (pxj_v 2) (blkOk_by (own := [("mark", 9)]) (N := N__law_likes) (sc := defScope s__law_likes) (by decide +kernel)) (by decide) (fun _ _ _ _ _ => (ct_name (i := 9) sc__law_likes.nd rfl (Or.inl rfl) (.inr rfl))) (fun _ _ _ _ _ => pxts_nil) (fun _ _ _ _ _ => (px_ifE (pxt_cmp (op_eqD' (u64 hr)) (px_var 9) (px_var 8)) (px_ix (u65 hr) (pr_var 2) (px_var 6)) (px_var 9))))) (pxs_one (pxs_app 3 (px_tup (pxa_cons (pr_of (px_ix (u65 hr) (pr_var 1) (px_var 6))) (pxa_cons (pr_of (px_ix (u65 hr) (pr_var 1) (px_var 7))) (pxa_cons (pr_var 4) pxa_nil)))))))) pxs_nil))))))) (pxs_one (pxs_retV 3)))))) pure__law_likes, m, F.kp, F.bindsN fun _ _ _ _ _ _ us hl => match us, hl with | [_, _], _ => rfl⟩
abbrev N_is_number : List Str := ["value", "low", "high"]
theorem sc_is_number : FnScope N_is_number ["value", "low", "high"] (defScope s_is_number) := ⟨rfl, rfl, rfl, by decide +kernel, rfl, by decide +kernel, by decide +kernel⟩
theorem ok_is_number (h : HD P w K mg base) : Cal P w K mg base "is_number" 2 3 ["value", "low", "high"] T_is_number := by
  obtain ⟨f, fd, F, m⟩ := h.f_is_number
  have C_is_whole := ok_is_whole h
  exact ⟨f, fd, fnP F sc_is_number rfl (fun cdv A outer s H E hr => (pxs_one (pxs_ret (px_and (px_call C_is_whole hr (by decide) rfl (pxa_cons (pr_var 0) pxa_nil)) (px_one (px_chain op_leD op_leD (px_var 1) (px_var 0) (px_var 2))))))) pure_is_number, m, F.kp, F.bindsN fun _ _ _ _ _ _ us hl => match us, hl with | [_, _, _], _ => rfl⟩
abbrev N_is_name_row : List Str := ["value", "most", "name"]
theorem sc_is_name_row : FnScope N_is_name_row ["value", "most"] (defScope s_is_name_row) := ⟨rfl, rfl, rfl, by decide +kernel, rfl, by decide +kernel, by decide +kernel⟩
theorem ok_is_name_row (h : HD P w K mg base) : Cal P w K mg base "is_name_row" 2 2 ["value", "most"] T_is_name_row := by
  obtain ⟨f, fd, F, m⟩ := h.f_is_name_row
  have C_is_name_text := ok_is_name_text h
  have C_is_rising := ok_is_rising h
  exact ⟨f, fd, fnP F sc_is_name_row rfl (fun cdv A outer s H E hr => (pxs_cons (pxs_if (pxt_w (pxw_or (pxt_not (pxt_val (px_isi kit_tup rfl h.b_isinstance rfl h.b_tuple boot_tuple (pr_var 0)))) (pxw_or1 (pxt_cmp op_gtD (px_callB cr_len rfl h.b_len boot_len (pxa_cons (pr_var 0) pxa_nil)) (px_var 1))))) (pxs_one (pxs_ret px_bl)) pxs_nil) (pxs_cons (pxs_for PassesOwn.never rfl (pxi_v 0) (pxg_name (i := 2) sc_is_name_row.nd rfl (Or.inl rfl)) (pxs_one (pxs_if (pxt_not (pxt_val (px_call C_is_name_text hr (by decide) rfl (pxa_cons (pr_var 2) pxa_nil)))) (pxs_one (pxs_ret px_bl)) pxs_nil))) (pxs_one (pxs_ret (px_call C_is_rising hr (by decide) rfl (pxa_cons (pr_var 0) pxa_nil))))))) pure_is_name_row, m, F.kp, F.bindsN fun _ _ _ _ _ _ us hl => match us, hl with | [_, _], _ => rfl⟩
abbrev N_all_arrangements : List Str := ["count", "rows", "step", "row", "number"]
theorem sc_all_arrangements : FnScope N_all_arrangements ["count"] (defScope s_all_arrangements) := ⟨rfl, rfl, rfl, by decide +kernel, rfl, by decide +kernel, by decide +kernel⟩
theorem ok_all_arrangements (h : HD P w K mg base) : Cal P w K mg base "all_arrangements" 2 1 ["count"] T_all_arrangements := by
  obtain ⟨f, fd, F, m⟩ := h.f_all_arrangements
  have C_class_total := ok_class_total h
  exact ⟨f, fd, fnP F sc_all_arrangements rfl (fun cdv A outer s H E hr => (pxs_cons (pxs_setF (i := 1) sc_all_arrangements.nd rfl (Or.inl rfl) (pf_lst (pxa_cons (pr_of (px_tup pxa_nil)) pxa_nil))) (pxs_cons (pxs_for PassesOwn.never rfl (pxi_r1 rfl h.b_range (px_var 0)) (pxg_name (i := 2) sc_all_arrangements.nd rfl (Or.inl rfl)) (pxs_one (pxs_setLc2 (vs1 := [4]) (i := 1) rfl sc_all_arrangements.nd rfl rfl (sw_true rfl rfl rfl (by decide +kernel)) (pxj_v 1) (blkOk_by (own := [("row", 3), ("number", 4)]) (N := N_all_arrangements) (sc := defScope s_all_arrangements) (by decide +kernel)) (by decide) (by decide) (by decide) (fun _ _ _ _ _ => (ct_name (i := 3) sc_all_arrangements.nd rfl (Or.inl rfl) (.inr rfl))) (fun _ _ _ _ _ => pxts_nil) (fun _ _ _ _ _ => (pxj0_r1 rfl h.b_range (px_bin op_addD (px_call C_class_total hr (by decide) rfl (pxa_cons (pr_var 3) pxa_nil)) px_int))) (fun _ _ _ _ _ => (ct_name (i := 4) sc_all_arrangements.nd rfl (Or.inl rfl) (.inr rfl))) (fun _ _ _ _ _ => pxts_nil) (fun _ _ _ _ _ => (px_bin op_addD (px_var 3) (px_tup (pxa_cons (pr_var 4) pxa_nil))))))) (pxs_one (pxs_ret (px_callTy cr_tuple rfl h.b_tuple boot_tuple (pxa_cons (pr_var 1) pxa_nil))))))) pure_all_arrangements, m, F.kp, F.bindsN fun _ _ _ _ _ _ us hl => match us, hl with | [_], _ => rfl⟩
abbrev N_finest_below : List Str := ["one", "other", "place"]
theorem sc_finest_below : FnScope N_finest_below ["one", "other"] (defScope s_finest_below) := ⟨rfl, rfl, rfl, by decide +kernel, rfl, by decide +kernel, by decide +kernel⟩
theorem ok_finest_below (h : HD P w K mg base) : Cal P w K mg base "finest_below" 2 2 ["one", "other"] T_finest_below := by
  obtain ⟨f, fd, F, m⟩ := h.f_finest_below
  have C_numbered := ok_numbered h
  exact ⟨f, fd, fnP F sc_finest_below rfl (fun cdv A outer s H E hr => (pxs_one (pxs_ret (px_call C_numbered hr (by decide) rfl (pxa_cons (pr_of (px_of (pf_lc rfl sc_finest_below.nd (pxj_r1 rfl h.b_range (px_callB cr_len rfl h.b_len boot_len (pxa_cons (pr_var 0) pxa_nil))) (blkOk_by (own := [("place", 2)]) (N := N_finest_below) (sc := defScope s_finest_below) (by decide +kernel)) (by decide) (fun _ _ _ _ _ => (ct_name (i := 2) sc_finest_below.nd rfl (Or.inl rfl) (.inr rfl))) (fun _ _ _ _ _ => pxts_nil) (fun _ _ _ _ _ => (px_tup (pxa_cons (pr_of (px_ix (u65 hr) (pr_var 0) (px_var 2))) (pxa_cons (pr_of (px_ix (u65 hr) (pr_var 1) (px_var 2))) pxa_nil))))))) pxa_nil))))) pure_finest_below, m, F.kp, F.bindsN fun _ _ _ _ _ _ us hl => match us, hl with | [_, _], _ => rfl⟩
abbrev N_common_sizes : List Str := ["one", "other", "few", "ray", "size"]
theorem sc_common_sizes : FnScope N_common_sizes ["one", "other"] (defScope s_common_sizes) := ⟨rfl, rfl, rfl, by decide +kernel, rfl, by decide +kernel, by decide +kernel⟩
theorem ok_common_sizes (h : HD P w K mg base) : Cal P w K mg base "common_sizes" 2 2 ["one", "other"] T_common_sizes := by
  obtain ⟨f, fd, F, m⟩ := h.f_common_sizes
  have C_has := ok_has h
  have C_tidied := ok_tidied h
  exact ⟨f, fd, fnP F sc_common_sizes rfl (fun cdv A outer s H E hr => (pxs_cons (pxs_set (i := 2) sc_common_sizes.nd rfl (Or.inl rfl) (px_bin op_addD (px_of (pf_lc rfl sc_common_sizes.nd (pxj_x (px_ix (u65 hr) (pr_var 0) px_int)) (blkOk_by (own := [("size", 4)]) (N := N_common_sizes) (sc := defScope s_common_sizes) (by decide +kernel)) (by decide) (fun _ _ _ _ _ => (ct_name (i := 4) sc_common_sizes.nd rfl (Or.inl rfl) (.inr rfl))) (fun _ _ _ _ _ => (pxts_one (pxt_val (px_call C_has hr (by decide) rfl (pxa_cons (pr_var 1) (pxa_cons (pr_var 4) pxa_nil)))))) (fun _ _ _ _ _ => (px_var 4)))) (px_of (pf_lc rfl sc_common_sizes.nd (pxj_x (px_ix (u65 hr) (pr_var 1) px_int)) (blkOk_by (own := [("size", 4)]) (N := N_common_sizes) (sc := defScope s_common_sizes) (by decide +kernel)) (by decide) (fun _ _ _ _ _ => (ct_name (i := 4) sc_common_sizes.nd rfl (Or.inl rfl) (.inr rfl))) (fun _ _ _ _ _ => (pxts_one (pxt_val (px_call C_has hr (by decide) rfl (pxa_cons (pr_var 0) (pxa_cons (pr_var 4) pxa_nil)))))) (fun _ _ _ _ _ => (px_var 4)))))) (pxs_cons (pxs_set (i := 3) sc_common_sizes.nd rfl (Or.inl rfl) px_int) (pxs_cons (pxs_if (pxt_w (pxw_and (pxt_tru (pr_of (px_ix (u65 hr) (pr_var 0) px_int))) (pxw_and1 (pxt_tru (pr_of (px_ix (u65 hr) (pr_var 1) px_int)))))) (pxs_one (pxs_set (i := 3) sc_common_sizes.nd rfl (Or.inl rfl) (px_callB (cr_max2 rfl) rfl h.b_max boot_max (pxa_cons (pr_of (px_ix (u65 hr) (pr_var 0) px_int)) (pxa_cons (pr_of (px_ix (u65 hr) (pr_var 1) px_int)) pxa_nil))))) pxs_nil) (pxs_one (pxs_ret (px_call C_tidied hr (by decide) rfl (pxa_cons (pr_var 2) (pxa_cons (pr_var 3) pxa_nil))))))))) pure_common_sizes, m, F.kp, F.bindsN fun _ _ _ _ _ _ us hl => match us, hl with | [_, _], _ => rfl⟩
abbrev N_from_to : List Str := ["low", "high"]
theorem sc_from_to : FnScope N_from_to ["low", "high"] (defScope s_from_to) := ⟨rfl, rfl, rfl, by decide +kernel, rfl, by decide +kernel, by decide +kernel⟩
theorem ok_from_to (h : HD P w K mg base) : Cal P w K mg base "from_to" 2 2 ["low", "high"] T_from_to := by
  obtain ⟨f, fd, F, m⟩ := h.f_from_to
  have C_tidied := ok_tidied h
  exact ⟨f, fd, fnP F sc_from_to rfl (fun cdv A outer s H E hr => (pxs_cons (pxs_if (pxt_cmp (op_eqD' (u64 hr)) (px_var 1) px_int) (pxs_one (pxs_ret (px_tup (pxa_cons (pr_of (px_tup pxa_nil)) (pxa_cons (pr_var 0) pxa_nil))))) pxs_nil) (pxs_one (pxs_ret (px_call C_tidied hr (by decide) rfl (pxa_cons (pr_of (px_of (pf_listRg2 rfl rfl h.b_list rfl h.b_range (px_var 0) (px_bin op_addD (px_var 1) px_int)))) (pxa_cons (pr_of px_int) pxa_nil))))))) pure_from_to, m, F.kp, F.bindsN fun _ _ _ _ _ _ us hl => match us, hl with | [_, _], _ => rfl⟩
abbrev N_full_row : List Str := ["arrangement"]
theorem sc_full_row : FnScope N_full_row ["arrangement"] (defScope s_full_row) := ⟨rfl, rfl, rfl, by decide +kernel, rfl, by decide +kernel, by decide +kernel⟩
theorem ok_full_row (h : HD P w K mg base) : Cal P w K mg base "full_row" 2 1 ["arrangement"] T_full_row := by
  obtain ⟨f, fd, F, m⟩ := h.f_full_row
  have C_class_total := ok_class_total h
  exact ⟨f, fd, fnP F sc_full_row rfl (fun cdv A outer s H E hr => (pxs_one (pxs_ret (px_tup (pxa_cons (pr_of (px_tup pxa_nil)) (pxa_cons (pr_of (px_callB (cr_max2 rfl) rfl h.b_max boot_max (pxa_cons (pr_of px_int) (pxa_cons (pr_of (px_call C_class_total hr (by decide) rfl (pxa_cons (pr_var 0) pxa_nil))) pxa_nil)))) pxa_nil)))))) pure_full_row, m, F.kp, F.bindsN fun _ _ _ _ _ _ us hl => match us, hl with | [_], _ => rfl⟩
abbrev N_are_names : List Str := ["value", "name"]
theorem sc_are_names : FnScope N_are_names ["value"] (defScope s_are_names) := ⟨rfl, rfl, rfl, by decide +kernel, rfl, by decide +kernel, by decide +kernel⟩
theorem ok_are_names (h : HD P w K mg base) : Cal P w K mg base "are_names" 2 1 ["value"] T_are_names := by
  obtain ⟨f, fd, F, m⟩ := h.f_are_names
  have C_is_name_text := ok_is_name_text h
  exact ⟨f, fd, fnP F sc_are_names rfl (fun cdv A outer s H E hr => (pxs_cons (pxs_for PassesOwn.never rfl (pxi_v 0) (pxg_name (i := 1) sc_are_names.nd rfl (Or.inl rfl)) (pxs_one (pxs_if (pxt_not (pxt_val (px_call C_is_name_text hr (by decide) rfl (pxa_cons (pr_var 1) pxa_nil)))) (pxs_one (pxs_ret px_bl)) pxs_nil))) (pxs_one (pxs_ret px_bl)))) pure_are_names, m, F.kp, F.bindsN fun _ _ _ _ _ _ us hl => match us, hl with | [_], _ => rfl⟩
abbrev N_answers : List Str := ["question", "book", "facts", "word", "number", "x", "y", "thing"]
theorem sc_answers : FnScope N_answers ["question", "book", "facts"] (defScope s_answers) := ⟨rfl, rfl, rfl, by decide +kernel, rfl, by decide +kernel, by decide +kernel⟩
theorem ok_answers (h : HD P w K mg base) : Cal P w K mg base "answers" 2 3 ["question", "book", "facts"] T_answers := by
  obtain ⟨f, fd, F, m⟩ := h.f_answers
  have C_decided_board := ok_decided_board h
  exact ⟨f, fd, fnP F sc_answers rfl (fun cdv A outer s H E hr => (pxs_cons (pxs_set (i := 3) sc_answers.nd rfl (Or.inl rfl) (px_ix (u65 hr) (pr_var 0) px_int)) (pxs_cons (pxs_if (pxt_cmp (op_eqD' (u64 hr)) (px_var 3) px_str) (pxs_one (pxs_ret (px_tup (pxa_cons (pr_of (px_tup (pxa_cons (pr_of px_str) (pxa_cons (pr_of (px_ix (u65 hr) (pr_var 0) px_int)) pxa_nil)))) (pxa_cons (pr_of (px_tup (pxa_cons (pr_of px_str) (pxa_cons (pr_of (px_bin op_addD (px_ix (u65 hr) (pr_var 0) px_int) px_int)) pxa_nil)))) pxa_nil))))) pxs_nil) (pxs_cons (pxs_if (pxt_cmp (op_eqD' (u64 hr)) (px_var 3) px_str) (pxs_one (pxs_ret (px_tup (pxa_cons (pr_of (px_tup (pxa_cons (pr_of px_str) (pxa_cons (pr_of (px_ix (u65 hr) (pr_var 0) px_int)) (pxa_cons (pr_of (px_ix (u65 hr) (pr_var 0) px_int)) pxa_nil))))) (pxa_cons (pr_of (px_tup (pxa_cons (pr_of px_str) (pxa_cons (pr_of (px_ix (u65 hr) (pr_var 0) px_int)) (pxa_cons (pr_of (px_bin op_addD (px_ix (u65 hr) (pr_var 0) px_int) px_int)) pxa_nil))))) pxa_nil))))) pxs_nil) (pxs_cons (pxs_if (pxt_cmp (op_eqD' (u64 hr)) (px_var 3) px_str) (pxs_one (pxs_ret (px_callTy cr_tuple rfl h.b_tuple boot_tuple (pxa_cons (pr_of (px_of (pf_lc rfl sc_answers.nd (pxj_r1 rfl h.b_range (px_callB cr_len rfl h.b_len boot_len (pxa_cons (pr_var 1) pxa_nil))) (blkOk_by (own := [("number", 4)]) (N := N_answers) (sc := defScope s_answers) (by decide +kernel)) (by decide) (fun _ _ _ _ _ => (ct_name (i := 4) sc_answers.nd rfl (Or.inl rfl) (.inr rfl))) (fun _ _ _ _ _ => pxts_nil) (fun _ _ _ _ _ => (px_tup (pxa_cons (pr_of px_str) (pxa_cons (pr_var 4) pxa_nil))))))) pxa_nil)))) pxs_nil) (pxs_cons (pxs_if (pxt_cmp (op_eqD' (u64 hr)) (px_var 3) px_str) (pxs_cons (pxs_set (i := 4) sc_answers.nd rfl (Or.inl rfl) (px_call C_decided_board hr (by decide) rfl (pxa_cons (pr_var 2) pxa_nil))) (pxs_cons (pxs_if (pxt_cmp (op_eqD' (u64 hr)) (px_var 4) (px_neg px_int)) (pxs_one (pxs_ret (px_tup pxa_nil))) pxs_nil) (pxs_one (pxs_ret (px_callTy cr_tuple rfl h.b_tuple boot_tuple (pxa_cons (pr_of (px_of (pf_lc rfl sc_answers.nd (pxj_r1 rfl h.b_range (px_ix (u65 hr) (pr_of (px_ix (u65 hr) (pr_var 1) (px_var 4))) px_int)) (blkOk_by (own := [("thing", 7)]) (N := N_answers) (sc := defScope s_answers) (by decide +kernel)) (by decide) (fun _ _ _ _ _ => (ct_name (i := 7) sc_answers.nd rfl (Or.inl rfl) (.inr rfl))) (fun _ _ _ _ _ => pxts_nil) (fun _ _ _ _ _ => (px_tup (pxa_cons (pr_of px_str) (pxa_cons (pr_of (px_ix (u65 hr) (pr_var 0) px_int)) (pxa_cons (pr_var 7) pxa_nil)))))))) pxa_nil)))))) pxs_nil) (pxs_cons (pxs_par (i := 5) (j := 6) rfl sc_answers.nd rfl rfl (by decide) rfl rfl (px_ix (u65 hr) (pr_var 0) px_int) (px_ix (u65 hr) (pr_var 0) px_int)) (pxs_cons (pxs_if (pxt_cmp (op_eqD' (u64 hr)) (px_var 3) px_str) (pxs_one (pxs_ret (px_tup (pxa_cons (pr_of (px_tup (pxa_cons (pr_of px_str) (pxa_cons (pr_var 5) (pxa_cons (pr_var 6) pxa_nil))))) (pxa_cons (pr_of (px_tup (pxa_cons (pr_of px_str) (pxa_cons (pr_var 5) (pxa_cons (pr_var 6) pxa_nil))))) pxa_nil))))) pxs_nil) (pxs_cons (pxs_if (pxt_cmp (op_eqD' (u64 hr)) (px_var 3) px_str) (pxs_one (pxs_ret (px_tup (pxa_cons (pr_of (px_tup (pxa_cons (pr_of px_str) (pxa_cons (pr_var 5) (pxa_cons (pr_var 6) pxa_nil))))) (pxa_cons (pr_of (px_tup (pxa_cons (pr_of px_str) (pxa_cons (pr_var 5) (pxa_cons (pr_var 6) pxa_nil))))) pxa_nil))))) pxs_nil) (pxs_one (pxs_ret (px_tup (pxa_cons (pr_of (px_tup (pxa_cons (pr_of px_str) (pxa_cons (pr_var 5) (pxa_cons (pr_var 6) pxa_nil))))) (pxa_cons (pr_of (px_tup (pxa_cons (pr_of px_str) (pxa_cons (pr_var 5) (pxa_cons (pr_var 6) pxa_nil))))) (pxa_cons (pr_of (px_tup (pxa_cons (pr_of px_str) (pxa_cons (pr_var 6) (pxa_cons (pr_var 5) pxa_nil))))) pxa_nil))))))))))))))) pure_answers, m, F.kp, F.bindsN fun _ _ _ _ _ _ us hl => match us, hl with | [_, _, _], _ => rfl⟩
abbrev N_partings : List Str := ["state", "names", "mark"]
theorem sc_partings : FnScope N_partings ["state", "names", "mark"] (defScope s_partings) := ⟨rfl, rfl, rfl, by decide +kernel, rfl, by decide +kernel, by decide +kernel⟩
theorem ok_partings (h : HD P w K mg base) : Cal P w K mg base "partings" 2 3 ["state", "names", "mark"] T_partings := by
  obtain ⟨f, fd, F, m⟩ := h.f_partings
  have C_name_partings := ok_name_partings h
  have C_size_partings := ok_size_partings h
  exact ⟨f, fd, fnP F sc_partings rfl (fun cdv A outer s H E hr => (pxs_one (pxs_ret (px_bin op_addD (px_call C_name_partings hr (by decide) rfl (pxa_cons (pr_var 0) (pxa_cons (pr_var 1) pxa_nil))) (px_call C_size_partings hr (by decide) rfl (pxa_cons (pr_var 0) (pxa_cons (pr_var 2) pxa_nil))))))) pure_partings, m, F.kp, F.bindsN fun _ _ _ _ _ _ us hl => match us, hl with | [_, _, _], _ => rfl⟩
abbrev N__law_meet_row : List Str := ["one", "other", "members", "size"]
theorem sc__law_meet_row : FnScope N__law_meet_row ["one", "other"] (defScope s__law_meet_row) := ⟨rfl, rfl, rfl, by decide +kernel, rfl, by decide +kernel, by decide +kernel⟩
theorem ok__law_meet_row (h : HD P w K mg base) : Cal P w K mg base "_law_meet_row" 2 2 ["one", "other"] T__law_meet_row := by
  obtain ⟨f, fd, F, m⟩ := h.f__law_meet_row
  have C__law_has := ok__law_has h
  have C__law_row_of := ok__law_row_of h
  exact ⟨f, fd, fnP F sc__law_meet_row rfl (fun cdv A outer s H E hr => (pxs_cons (pxs_setLc (i := 2) rfl sc__law_meet_row.nd rfl rfl (sw_true rfl rfl rfl (by decide +kernel)) (pxj_x (px_bin op_addD (px_ix (u65 hr) (pr_var 0) px_int) (px_ix (u65 hr) (pr_var 1) px_int))) (blkOk_by (own := [("size", 3)]) (N := N__law_meet_row) (sc := defScope s__law_meet_row) (by decide +kernel)) (by decide) (fun _ _ _ _ _ => (ct_name (i := 3) sc__law_meet_row.nd rfl (Or.inl rfl) (.inr rfl))) (fun _ _ _ _ _ => (pxts_one (pxt_w (pxw_and (pxt_val (px_call C__law_has hr (by decide) rfl (pxa_cons (pr_var 0) (pxa_cons (pr_var 3) pxa_nil)))) (pxw_and1 (pxt_val (px_call C__law_has hr (by decide) rfl (pxa_cons (pr_var 1) (pxa_cons (pr_var 3) pxa_nil))))))))) (fun _ _ _ _ _ => (px_var 3))) (pxs_one (pxs_ret (px_call C__law_row_of hr (by decide) rfl (pxa_cons (pr_var 2) (pxa_cons (pr_of (px_bin op_mulD (px_callB (cr_max2 rfl) rfl h.b_max boot_max (pxa_cons (pr_of (px_ix (u65 hr) (pr_var 0) px_int)) (pxa_cons (pr_of (px_ix (u65 hr) (pr_var 1) px_int)) pxa_nil))) (px_callB (cr_min3 rfl) rfl h.b_min boot_min (pxa_cons (pr_of px_int) (pxa_cons (pr_of (px_ix (u65 hr) (pr_var 0) px_int)) (pxa_cons (pr_of (px_ix (u65 hr) (pr_var 1) px_int)) pxa_nil)))))) pxa_nil))))))) pure__law_meet_row, m, F.kp, F.bindsN fun _ _ _ _ _ _ us hl => match us, hl with | [_, _], _ => rfl⟩
abbrev N__law_drawn_face : List Str := ["pot", "names", "rows", "arrangement", "least", "few", "ray", "size"]
theorem sc__law_drawn_face : FnScope N__law_drawn_face ["pot", "names"] (defScope s__law_drawn_face) := ⟨rfl, rfl, rfl, by decide +kernel, rfl, by decide +kernel, by decide +kernel⟩
theorem ok__law_drawn_face (h : HD P w K mg base) : Cal P w K mg base "_law_drawn_face" 2 2 ["pot", "names"] T__law_drawn_face := by
  obtain ⟨f, fd, F, m⟩ := h.f__law_drawn_face
  have C__law_arrangements := ok__law_arrangements h
  have C__law_draw := ok__law_draw h
  have C__law_row_of := ok__law_row_of h
  exact ⟨f, fd, fnP F sc__law_drawn_face rfl (fun cdv A outer s H E hr => (pxs_cons (pxs_setF (i := 2) sc__law_drawn_face.nd rfl (Or.inl rfl) (pf_lst pxa_nil)) (pxs_cons (pxs_for PassesOwn.never rfl (pxi_x (px_call C__law_arrangements hr (by decide) rfl (pxa_cons (pr_of (px_callB cr_len rfl h.b_len boot_len (pxa_cons (pr_var 1) pxa_nil))) pxa_nil))) (pxg_name (i := 3) sc__law_drawn_face.nd rfl (Or.inl rfl)) (pxs_cons (pxs_set (i := 4) sc__law_drawn_face.nd rfl (Or.inl rfl) (px_callB (cr_max2 rfl) rfl h.b_max boot_max (pxa_cons (pr_of px_int) (pxa_cons (pr_of (px_lenSet rfl rfl h.b_len rfl h.b_set (pr_var 3))) pxa_nil)))) (pxs_cons (pxs_setLc (i := 5) rfl sc__law_drawn_face.nd rfl rfl (sw_true rfl rfl rfl (by decide +kernel)) (pxj_r2 rfl h.b_range (px_var 4) px_int) (blkOk_by (own := [("size", 7)]) (N := N__law_drawn_face) (sc := defScope s__law_drawn_face) (by decide +kernel)) (by decide) (fun _ _ _ _ _ => (ct_name (i := 7) sc__law_drawn_face.nd rfl (Or.inl rfl) (.inr rfl))) (fun _ _ _ _ _ => (pxts_one (pxt_cmp (op_eqD' (u64 hr)) (px_call C__law_draw hr (by decide) rfl (pxa_cons (pr_var 0) (pxa_cons (pr_of px_int) pxa_nil))) px_int))) (fun _ _ _ _ _ => (px_var 7))) (pxs_cons (pxs_set (i := 6) sc__law_drawn_face.nd rfl (Or.inl rfl) (px_ix (u65 hr) (pr_of (px_of (pf_lst (pxa_cons (pr_of px_int) (pxa_cons (pr_var 4) (pxa_cons (pr_var 4) (pxa_cons (pr_of (px_bin op_addD (px_var 4) (px_call C__law_draw hr (by decide) rfl (pxa_cons (pr_var 0) (pxa_cons (pr_of px_int) pxa_nil))))) pxa_nil))))))) (px_call C__law_draw hr (by decide) rfl (pxa_cons (pr_var 0) (pxa_cons (pr_of px_int) pxa_nil))))) (pxs_cons (pxs_if (pxt_cmp op_gtD (px_call C__law_draw hr (by decide) rfl (pxa_cons (pr_var 0) (pxa_cons (pr_of px_int) pxa_nil))) px_int) (pxs_one (pxs_setF (i := 5) sc__law_drawn_face.nd rfl (Or.inl rfl) (pf_lst pxa_nil))) pxs_nil) (pxs_cons (pxs_if (pxt_cmp (op_eqD' (u64 hr)) (px_call C__law_draw hr (by decide) rfl (pxa_cons (pr_var 0) (pxa_cons (pr_of px_int) pxa_nil))) px_int) (pxs_one (pxs_set (i := 6) sc__law_drawn_face.nd rfl (Or.inl rfl) px_int)) pxs_nil) (pxs_one (pxs_app 2 (px_call C__law_row_of hr (by decide) rfl (pxa_cons (pr_var 5) (pxa_cons (pr_var 6) pxa_nil))))))))))) (pxs_one (pxs_ret (px_tup (pxa_cons (pr_var 1) (pxa_cons (pr_of (px_callTy cr_tuple rfl h.b_tuple boot_tuple (pxa_cons (pr_var 2) pxa_nil))) pxa_nil)))))))) pure__law_drawn_face, m, F.kp, F.bindsN fun _ _ _ _ _ _ us hl => match us, hl with | [_, _], _ => rfl⟩
abbrev N__law_met : List Str := ["one", "other", "place"]
theorem sc__law_met : FnScope N__law_met ["one", "other"] (defScope s__law_met) := ⟨rfl, rfl, rfl, by decide +kernel, rfl, by decide +kernel, by decide +kernel⟩
theorem ok__law_met (h : HD P w K mg base) : Cal P w K mg base "_law_met" 2 2 ["one", "other"] T__law_met := by
  obtain ⟨f, fd, F, m⟩ := h.f__law_met
  have C__law_same_marks := ok__law_same_marks h
  exact ⟨f, fd, fnP F sc__law_met rfl (fun cdv A outer s H E hr => (pxs_one (pxs_ret (px_call C__law_same_marks hr (by decide) rfl (pxa_cons (pr_of (px_of (pf_lc rfl sc__law_met.nd (pxj_r1 rfl h.b_range (px_callB cr_len rfl h.b_len boot_len (pxa_cons (pr_var 0) pxa_nil))) (blkOk_by (own := [("place", 2)]) (N := N__law_met) (sc := defScope s__law_met) (by decide +kernel)) (by decide) (fun _ _ _ _ _ => (ct_name (i := 2) sc__law_met.nd rfl (Or.inl rfl) (.inr rfl))) (fun _ _ _ _ _ => pxts_nil) (fun _ _ _ _ _ => (px_tup (pxa_cons (pr_of (px_ix (u65 hr) (pr_var 0) (px_var 2))) (pxa_cons (pr_of (px_ix (u65 hr) (pr_var 1) (px_var 2))) pxa_nil))))))) pxa_nil))))) pure__law_met, m, F.kp, F.bindsN fun _ _ _ _ _ _ us hl => match us, hl with | [_, _], _ => rfl⟩
abbrev N_is_sizes : List Str := ["value", "few", "ray", "size"]
theorem sc_is_sizes : FnScope N_is_sizes ["value"] (defScope s_is_sizes) := ⟨rfl, rfl, rfl, by decide +kernel, rfl, by decide +kernel, by decide +kernel⟩
theorem ok_is_sizes (h : HD P w K mg base) : Cal P w K mg base "is_sizes" 3 1 ["value"] T_is_sizes := by
  obtain ⟨f, fd, F, m⟩ := h.f_is_sizes
  have C_is_number := ok_is_number h
  have C_is_pair := ok_is_pair h
  have C_is_rising := ok_is_rising h
  exact ⟨f, fd, fnP F sc_is_sizes rfl (fun cdv A outer s H E hr => (pxs_cons (pxs_if (pxt_w (pxw_or (pxt_not (pxt_val (px_call C_is_pair hr (by decide) rfl (pxa_cons (pr_var 0) pxa_nil)))) (pxw_or1 (pxt_not (pxt_val (px_isi kit_tup rfl h.b_isinstance rfl h.b_tuple boot_tuple (pr_of (px_ix (u65 hr) (pr_var 0) px_int)))))))) (pxs_one (pxs_ret px_bl)) pxs_nil) (pxs_cons (pxs_asg (px_var 0) (pxg_tup (is := [1, 2]) rfl (pgs_cons (pg_name (i := 1) sc_is_sizes.nd rfl (Or.inl rfl)) (pgs_cons (pg_name (i := 2) sc_is_sizes.nd rfl (Or.inl rfl)) pgs_nil)))) (pxs_cons (pxs_if (pxt_not (pxt_val (px_call C_is_number hr (by decide) rfl (pxa_cons (pr_var 2) (pxa_cons (pr_of px_int) (pxa_cons (pr_of px_int) pxa_nil)))))) (pxs_one (pxs_ret px_bl)) pxs_nil) (pxs_cons (pxs_for PassesOwn.never rfl (pxi_v 1) (pxg_name (i := 3) sc_is_sizes.nd rfl (Or.inl rfl)) (pxs_one (pxs_if (pxt_not (pxt_val (px_call C_is_number hr (by decide) rfl (pxa_cons (pr_var 3) (pxa_cons (pr_of px_int) (pxa_cons (pr_of px_int) pxa_nil)))))) (pxs_one (pxs_ret px_bl)) pxs_nil))) (pxs_cons (pxs_if (pxt_not (pxt_val (px_call C_is_rising hr (by decide) rfl (pxa_cons (pr_var 1) pxa_nil)))) (pxs_one (pxs_ret px_bl)) pxs_nil) (pxs_one (pxs_ret (px_or (px_cmp (op_eqD' (u64 hr)) (px_var 2) px_int) (px_or (px_not (pr_var 1)) (px_one (px_cmp op_ltD (px_ix (u65 hr) (pr_var 1) (px_neg px_int)) (px_bin op_subD (px_var 2) px_int))))))))))))) pure_is_sizes, m, F.kp, F.bindsN fun _ _ _ _ _ _ us hl => match us, hl with | [_], _ => rfl⟩
abbrev N_face_with : List Str := ["names", "row", "arrangement"]
theorem sc_face_with : FnScope N_face_with ["names", "row"] (defScope s_face_with) := ⟨rfl, rfl, rfl, by decide +kernel, rfl, by decide +kernel, by decide +kernel⟩
theorem ok_face_with (h : HD P w K mg base) : Cal P w K mg base "face_with" 3 2 ["names", "row"] T_face_with := by
  obtain ⟨f, fd, F, m⟩ := h.f_face_with
  have C_all_arrangements := ok_all_arrangements h
  have C_common_sizes := ok_common_sizes h
  have C_full_row := ok_full_row h
  exact ⟨f, fd, fnP F sc_face_with rfl (fun cdv A outer s H E hr => (pxs_one (pxs_ret (px_tup (pxa_cons (pr_var 0) (pxa_cons (pr_of (px_callTy cr_tuple rfl h.b_tuple boot_tuple (pxa_cons (pr_of (px_of (pf_lc rfl sc_face_with.nd (pxj_x (px_call C_all_arrangements hr (by decide) rfl (pxa_cons (pr_of (px_callB cr_len rfl h.b_len boot_len (pxa_cons (pr_var 0) pxa_nil))) pxa_nil))) (blkOk_by (own := [("arrangement", 2)]) (N := N_face_with) (sc := defScope s_face_with) (by decide +kernel)) (by decide) (fun _ _ _ _ _ => (ct_name (i := 2) sc_face_with.nd rfl (Or.inl rfl) (.inr rfl))) (fun _ _ _ _ _ => pxts_nil) (fun _ _ _ _ _ => (px_call C_common_sizes hr (by decide) rfl (pxa_cons (pr_var 1) (pxa_cons (pr_of (px_call C_full_row hr (by decide) rfl (pxa_cons (pr_var 2) pxa_nil))) pxa_nil))))))) pxa_nil))) pxa_nil)))))) pure_face_with, m, F.kp, F.bindsN fun _ _ _ _ _ _ us hl => match us, hl with | [_, _], _ => rfl⟩
abbrev N_meet_faces : List Str := ["one", "other", "first", "second"]
theorem sc_meet_faces : FnScope N_meet_faces ["one", "other"] (defScope s_meet_faces) := ⟨rfl, rfl, rfl, by decide +kernel, rfl, by decide +kernel, by decide +kernel⟩
theorem ok_meet_faces (h : HD P w K mg base) : Cal P w K mg base "meet_faces" 3 2 ["one", "other"] T_meet_faces := by
  obtain ⟨f, fd, F, m⟩ := h.f_meet_faces
  have C_common_sizes := ok_common_sizes h
  exact ⟨f, fd, fnP F sc_meet_faces rfl (fun cdv A outer s H E hr => (pxs_one (pxs_ret (px_tup (pxa_cons (pr_of (px_ix (u65 hr) (pr_var 0) px_int)) (pxa_cons (pr_of (px_callTy cr_tuple rfl h.b_tuple boot_tuple (pxa_cons (pr_of (px_of (pf_lc rfl sc_meet_faces.nd (pxj_zip rfl h.b_zip (px_ix (u65 hr) (pr_var 0) px_int) (px_ix (u65 hr) (pr_var 1) px_int)) (blkOk_by (own := [("first", 2), ("second", 3)]) (N := N_meet_faces) (sc := defScope s_meet_faces) (by decide +kernel)) (by decide) (fun _ _ _ _ _ => (ct_tup (is := [2, 3]) rfl (pgs_cons (pg_name (i := 2) sc_meet_faces.nd rfl (Or.inl rfl) (.inr rfl)) (pgs_cons (pg_name (i := 3) sc_meet_faces.nd rfl (Or.inl rfl) (.inr rfl)) pgs_nil)))) (fun _ _ _ _ _ => pxts_nil) (fun _ _ _ _ _ => (px_call C_common_sizes hr (by decide) rfl (pxa_cons (pr_var 2) (pxa_cons (pr_var 3) pxa_nil))))))) pxa_nil))) pxa_nil)))))) pure_meet_faces, m, F.kp, F.bindsN fun _ _ _ _ _ _ us hl => match us, hl with | [_, _], _ => rfl⟩
theorem ok_is_region (h : HD P w K mg base) : Cal P w K mg base "is_region" 3 1 ["value"] T_is_region := by
  obtain ⟨f, fd, F, m⟩ := h.f_is_region
  exact ⟨f, fd, ⟨fun _ _ _ _ ⟨_, _, _, _, _, _, ht, _⟩ => ht.elim, fun _ _ _ _ _ _ _ _ _ _ _ _ _ ⟨_, _, _, _, _, _, ht, _⟩ => ht.elim⟩, m, F.kp, F.bindsN fun _ _ _ _ _ _ us hl => match us, hl with | [_], _ => rfl⟩
abbrev N_let_by : List Str := ["face", "told", "arrangement", "row"]
theorem sc_let_by : FnScope N_let_by ["face"] (defScope s_let_by) := ⟨rfl, rfl, rfl, by decide +kernel, rfl, by decide +kernel, by decide +kernel⟩
theorem ok_let_by (h : HD P w K mg base) : Cal P w K mg base "let_by" 3 1 ["face"] T_let_by := by
  obtain ⟨f, fd, F, m⟩ := h.f_let_by
  have C_all_arrangements := ok_all_arrangements h
  exact ⟨f, fd, fnP F sc_let_by rfl (fun cdv A outer s H E hr => (pxs_cons (pxs_set (i := 1) sc_let_by.nd rfl (Or.inl rfl) (px_call C_all_arrangements hr (by decide) rfl (pxa_cons (pr_of (px_callB cr_len rfl h.b_len boot_len (pxa_cons (pr_of (px_ix (u65 hr) (pr_var 0) px_int)) pxa_nil))) pxa_nil))) (pxs_one (pxs_ret (px_of (pf_lc rfl sc_let_by.nd (pxj_zip rfl h.b_zip (px_var 1) (px_ix (u65 hr) (pr_var 0) px_int)) (blkOk_by (own := [("arrangement", 2), ("row", 3)]) (N := N_let_by) (sc := defScope s_let_by) (by decide +kernel)) (by decide) (fun _ _ _ _ _ => (ct_tup (is := [2, 3]) rfl (pgs_cons (pg_name (i := 2) sc_let_by.nd rfl (Or.inl rfl) (.inr rfl)) (pgs_cons (pg_name (i := 3) sc_let_by.nd rfl (Or.inl rfl) (.inr rfl)) pgs_nil)))) (fun _ _ _ _ _ => (pxts_one (pxt_cmp (op_neD' (u64 hr)) (px_var 3) (px_tup (pxa_cons (pr_of (px_tup pxa_nil)) (pxa_cons (pr_of px_int) pxa_nil)))))) (fun _ _ _ _ _ => (px_var 2)))))))) pure_let_by, m, F.kp, F.bindsN fun _ _ _ _ _ _ us hl => match us, hl with | [_], _ => rfl⟩
abbrev N_sizes_between : List Str := ["low", "high"]
theorem sc_sizes_between : FnScope N_sizes_between ["low", "high"] (defScope s_sizes_between) := ⟨rfl, rfl, rfl, by decide +kernel, rfl, by decide +kernel, by decide +kernel⟩
theorem ok_sizes_between (h : HD P w K mg base) : Cal P w K mg base "sizes_between" 3 2 ["low", "high"] T_sizes_between := by
  obtain ⟨f, fd, F, m⟩ := h.f_sizes_between
  have C_from_to := ok_from_to h
  exact ⟨f, fd, fnP F sc_sizes_between rfl (fun cdv A outer s H E hr => (pxs_cons (pxs_if (pxt_chain op_ltD op_ltD px_int (px_var 1) (px_var 0)) (pxs_one (pxs_ret (px_tup (pxa_cons (pr_of (px_tup pxa_nil)) (pxa_cons (pr_of px_int) pxa_nil))))) pxs_nil) (pxs_one (pxs_ret (px_call C_from_to hr (by decide) rfl (pxa_cons (pr_var 0) (pxa_cons (pr_var 1) pxa_nil))))))) pure_sizes_between, m, F.kp, F.bindsN fun _ _ _ _ _ _ us hl => match us, hl with | [_, _], _ => rfl⟩
abbrev N_start_state : List Str := ["count"]
theorem sc_start_state : FnScope N_start_state ["count"] (defScope s_start_state) := ⟨rfl, rfl, rfl, by decide +kernel, rfl, by decide +kernel, by decide +kernel⟩
theorem ok_start_state (h : HD P w K mg base) : Cal P w K mg base "start_state" 3 1 ["count"] T_start_state := by
  obtain ⟨f, fd, F, m⟩ := h.f_start_state
  have C_all_arrangements := ok_all_arrangements h
  exact ⟨f, fd, fnP F sc_start_state rfl (fun cdv A outer s H E hr => (pxs_one (pxs_ret (px_tup (pxa_cons (pr_of (px_call C_all_arrangements hr (by decide) rfl (pxa_cons (pr_var 0) pxa_nil))) (pxa_cons (pr_of px_int) (pxa_cons (pr_of px_int) pxa_nil))))))) pure_start_state, m, F.kp, F.bindsN fun _ _ _ _ _ _ us hl => match us, hl with | [_], _ => rfl⟩
abbrev N_is_ended : List Str := ["face", "state", "told", "low", "high", "arrangement", "row"]
theorem sc_is_ended : FnScope N_is_ended ["face", "state"] (defScope s_is_ended) := ⟨rfl, rfl, rfl, by decide +kernel, rfl, by decide +kernel, by decide +kernel⟩
theorem ok_is_ended (h : HD P w K mg base) : Cal P w K mg base "is_ended" 3 2 ["face", "state"] T_is_ended := by
  obtain ⟨f, fd, F, m⟩ := h.f_is_ended
  have C_all_arrangements := ok_all_arrangements h
  have C_has_some := ok_has_some h
  exact ⟨f, fd, fnP F sc_is_ended rfl (fun cdv A outer s H E hr => (pxs_cons (pxs_asg (px_var 1) (pxg_tup (is := [2, 3, 4]) rfl (pgs_cons (pg_name (i := 2) sc_is_ended.nd rfl (Or.inl rfl)) (pgs_cons (pg_name (i := 3) sc_is_ended.nd rfl (Or.inl rfl)) (pgs_cons (pg_name (i := 4) sc_is_ended.nd rfl (Or.inl rfl)) pgs_nil))))) (pxs_cons (pxs_for PassesOwn.never rfl (pxi_zip rfl h.b_zip (px_call C_all_arrangements hr (by decide) rfl (pxa_cons (pr_of (px_callB cr_len rfl h.b_len boot_len (pxa_cons (pr_of (px_ix (u65 hr) (pr_var 0) px_int)) pxa_nil))) pxa_nil)) (px_ix (u65 hr) (pr_var 0) px_int)) (pxg_tup (is := [5, 6]) rfl (pgs_cons (pg_name (i := 5) sc_is_ended.nd rfl (Or.inl rfl)) (pgs_cons (pg_name (i := 6) sc_is_ended.nd rfl (Or.inl rfl)) pgs_nil))) (pxs_one (pxs_if (pxt_w (pxw_and (pxt_in (u65 hr) (px_var 5) (pr_var 2)) (pxw_and1 (pxt_val (px_call C_has_some hr (by decide) rfl (pxa_cons (pr_var 6) (pxa_cons (pr_var 3) (pxa_cons (pr_var 4) pxa_nil)))))))) (pxs_one (pxs_ret px_bl)) pxs_nil))) (pxs_one (pxs_ret px_bl))))) pure_is_ended, m, F.kp, F.bindsN fun _ _ _ _ _ _ us hl => match us, hl with | [_, _], _ => rfl⟩
abbrev N_best_parting : List Str := ["state", "names", "mark", "best", "told", "question", "one", "other", "number"]
theorem sc_best_parting : FnScope N_best_parting ["state", "names", "mark", "best"] (defScope s_best_parting) := ⟨rfl, rfl, rfl, by decide +kernel, rfl, by decide +kernel, by decide +kernel⟩
theorem ok_best_parting (h : HD P w K mg base) : Cal P w K mg base "best_parting" 3 4 ["state", "names", "mark", "best"] T_best_parting := by
  obtain ⟨f, fd, F, m⟩ := h.f_best_parting
  have C_partings := ok_partings h
  exact ⟨f, fd, fnP F sc_best_parting rfl (fun cdv A outer s H E hr => (pxs_cons (pxs_set (i := 4) sc_best_parting.nd rfl (Or.inl rfl) px_non) (pxs_cons (pxs_for PassesOwn.never rfl (pxi_x (px_call C_partings hr (by decide) rfl (pxa_cons (pr_var 0) (pxa_cons (pr_var 1) (pxa_cons (pr_var 2) pxa_nil))))) (pxg_tup (is := [5, 6, 7]) rfl (pgs_cons (pg_name (i := 5) sc_best_parting.nd rfl (Or.inl rfl)) (pgs_cons (pg_name (i := 6) sc_best_parting.nd rfl (Or.inl rfl)) (pgs_cons (pg_name (i := 7) sc_best_parting.nd rfl (Or.inl rfl)) pgs_nil)))) (pxs_cons (pxs_set (i := 8) sc_best_parting.nd rfl (Or.inl rfl) (px_bin op_addD (px_ix (u65 hr) (pr_of (px_ix (u65 hr) (pr_var 3) (px_var 6))) px_int) (px_ix (u65 hr) (pr_of (px_ix (u65 hr) (pr_var 3) (px_var 7))) px_int))) (pxs_one (pxs_if (pxt_w (pxw_or (pxt_cmp op_isND (px_var 4) px_non) (pxw_or1 (pxt_cmp op_ltD (px_var 8) (px_ix (u65 hr) (pr_var 4) px_int))))) (pxs_one (pxs_set (i := 4) sc_best_parting.nd rfl (Or.inl rfl) (px_tup (pxa_cons (pr_var 8) (pxa_cons (pr_of (px_tup (pxa_cons (pr_of px_str) (pxa_cons (pr_var 5) (pxa_cons (pr_of (px_tup (pxa_cons (pr_of (px_ix (u65 hr) (pr_of (px_ix (u65 hr) (pr_var 3) (px_var 6))) px_int)) (pxa_cons (pr_of (px_ix (u65 hr) (pr_of (px_ix (u65 hr) (pr_var 3) (px_var 7))) px_int)) pxa_nil)))) pxa_nil))))) pxa_nil))))) pxs_nil)))) (pxs_one (pxs_retV 4))))) pure_best_parting, m, F.kp, F.bindsN fun _ _ _ _ _ _ us hl => match us, hl with | [_, _, _, _], _ => rfl⟩
abbrev N__law_names : List Str := ["pot", "many"]
theorem sc__law_names : FnScope N__law_names ["pot", "many"] (defScope s__law_names) := ⟨rfl, rfl, rfl, by decide +kernel, rfl, by decide +kernel, by decide +kernel⟩
theorem ok__law_names (h : HD P w K mg base) : Cal P w K mg base "_law_names" 3 2 ["pot", "many"] T__law_names := by
  obtain ⟨f, fd, F, m⟩ := h.f__law_names
  have C__law_some_names := ok__law_some_names h
  exact ⟨f, fd, fnP F sc__law_names rfl (fun cdv A outer s H E hr => (pxs_one (pxs_ret (px_callTy cr_tuple rfl h.b_tuple boot_tuple (pxa_cons (pr_of (px_of (pf_sortedS rfl h.b_sorted (pr_of (px_call C__law_some_names hr (by decide) rfl (pxa_cons (pr_var 0) (pxa_cons (pr_var 1) pxa_nil))))))) pxa_nil))))) pure__law_names, m, F.kp, F.bindsN fun _ _ _ _ _ _ us hl => match us, hl with | [_, _], _ => rfl⟩
abbrev N__law_meet : List Str := ["one", "other", "place"]
theorem sc__law_meet : FnScope N__law_meet ["one", "other"] (defScope s__law_meet) := ⟨rfl, rfl, rfl, by decide +kernel, rfl, by decide +kernel, by decide +kernel⟩
theorem ok__law_meet (h : HD P w K mg base) : Cal P w K mg base "_law_meet" 3 2 ["one", "other"] T__law_meet := by
  obtain ⟨f, fd, F, m⟩ := h.f__law_meet
  have C__law_meet_row := ok__law_meet_row h
  exact ⟨f, fd, fnP F sc__law_meet rfl (fun cdv A outer s H E hr => (pxs_one (pxs_ret (px_tup (pxa_cons (pr_of (px_ix (u65 hr) (pr_var 0) px_int)) (pxa_cons (pr_of (px_callTy cr_tuple rfl h.b_tuple boot_tuple (pxa_cons (pr_of (px_of (pf_lc rfl sc__law_meet.nd (pxj_r1 rfl h.b_range (px_callB cr_len rfl h.b_len boot_len (pxa_cons (pr_of (px_ix (u65 hr) (pr_var 0) px_int)) pxa_nil))) (blkOk_by (own := [("place", 2)]) (N := N__law_meet) (sc := defScope s__law_meet) (by decide +kernel)) (by decide) (fun _ _ _ _ _ => (ct_name (i := 2) sc__law_meet.nd rfl (Or.inl rfl) (.inr rfl))) (fun _ _ _ _ _ => pxts_nil) (fun _ _ _ _ _ => (px_call C__law_meet_row hr (by decide) rfl (pxa_cons (pr_of (px_ix (u65 hr) (pr_of (px_ix (u65 hr) (pr_var 0) px_int)) (px_var 2))) (pxa_cons (pr_of (px_ix (u65 hr) (pr_of (px_ix (u65 hr) (pr_var 1) px_int)) (px_var 2))) pxa_nil))))))) pxa_nil))) pxa_nil)))))) pure__law_meet, m, F.kp, F.bindsN fun _ _ _ _ _ _ us hl => match us, hl with | [_, _], _ => rfl⟩
abbrev N__law_lets : List Str := ["face", "known", "arranged", "lets", "place", "row"]
theorem sc__law_lets : FnScope N__law_lets ["face", "known"] (defScope s__law_lets) := ⟨rfl, rfl, rfl, by decide +kernel, rfl, by decide +kernel, by decide +kernel⟩
theorem ok__law_lets (h : HD P w K mg base) : Cal P w K mg base "_law_lets" 3 2 ["face", "known"] T__law_lets := by
  obtain ⟨f, fd, F, m⟩ := h.f__law_lets
  have C__law_arrangements := ok__law_arrangements h
  have C__law_met := ok__law_met h
  exact ⟨f, fd, fnP F sc__law_lets rfl (fun cdv A outer s H E hr => (pxs_cons (pxs_set (i := 2) sc__law_lets.nd rfl (Or.inr rfl) (px_call C__law_arrangements hr (by decide) rfl (pxa_cons (pr_of (px_callB cr_len rfl h.b_len boot_len (pxa_cons (pr_of (px_ix (u65 hr) (pr_var 0) px_int)) pxa_nil))) pxa_nil))) (pxs_cons (pxs_setLc (i := 3) rfl sc__law_lets.nd rfl rfl (sw_true rfl rfl rfl (by decide +kernel)) (pxj_r1 rfl h.b_range (px_callB cr_len rfl h.b_len boot_len (pxa_cons (pr_var 2) pxa_nil))) (blkOk_by (own := [("place", 4)]) (N := N__law_lets) (sc := defScope s__law_lets) (by decide +kernel)) (by decide) (fun _ _ _ _ _ => (ct_name (i := 4) sc__law_lets.nd rfl (Or.inl rfl) (.inr rfl))) (fun _ _ _ _ _ => (pxts_one (pxt_cmp (op_neD' (u64 hr)) (px_ix (u65 hr) (pr_of (px_ix (u65 hr) (pr_var 0) px_int)) (px_var 4)) (px_tup (pxa_cons (pr_of (px_tup pxa_nil)) (pxa_cons (pr_of px_int) pxa_nil)))))) (fun _ _ _ _ _ => (px_ix (u65 hr) (pr_var 2) (px_var 4)))) (pxs_one (pxs_ret (px_of (pf_lc rfl sc__law_lets.nd (pxj_v 3) (blkOk_by (own := [("row", 5)]) (N := N__law_lets) (sc := defScope s__law_lets) (by decide +kernel)) (by decide) (fun _ _ _ _ _ => (ct_name (i := 5) sc__law_lets.nd rfl (Or.inl rfl) (.inr rfl))) (fun _ _ _ _ _ => (pxts_one (pxt_cmp (op_eqD' (u64 hr)) (px_call C__law_met hr (by decide) rfl (pxa_cons (pr_var 5) (pxa_cons (pr_var 1) pxa_nil))) (px_var 1)))) (fun _ _ _ _ _ => (px_var 5))))))))) pure__law_lets, m, F.kp, F.bindsN fun _ _ _ _ _ _ us hl => match us, hl with | [_, _], _ => rfl⟩
abbrev N_whole_face : List Str := ["names"]
theorem sc_whole_face : FnScope N_whole_face ["names"] (defScope s_whole_face) := ⟨rfl, rfl, rfl, by decide +kernel, rfl, by decide +kernel, by decide +kernel⟩
theorem ok_whole_face (h : HD P w K mg base) : Cal P w K mg base "whole_face" 4 1 ["names"] T_whole_face := by
  obtain ⟨f, fd, F, m⟩ := h.f_whole_face
  have C_face_with := ok_face_with h
  exact ⟨f, fd, fnP F sc_whole_face rfl (fun cdv A outer s H E hr => (pxs_one (pxs_ret (px_call C_face_with hr (by decide) rfl (pxa_cons (pr_var 0) (pxa_cons (pr_of (px_tup (pxa_cons (pr_of (px_tup pxa_nil)) (pxa_cons (pr_of px_int) pxa_nil)))) pxa_nil)))))) pure_whole_face, m, F.kp, F.bindsN fun _ _ _ _ _ _ us hl => match us, hl with | [_], _ => rfl⟩
abbrev N_is_face : List Str := ["value", "told", "arrangement", "row"]
theorem sc_is_face : FnScope N_is_face ["value"] (defScope s_is_face) := ⟨rfl, rfl, rfl, by decide +kernel, rfl, by decide +kernel, by decide +kernel⟩
theorem ok_is_face (h : HD P w K mg base) : Cal P w K mg base "is_face" 4 1 ["value"] T_is_face := by
  obtain ⟨f, fd, F, m⟩ := h.f_is_face
  have C_all_arrangements := ok_all_arrangements h
  have C_class_total := ok_class_total h
  have C_is_name_row := ok_is_name_row h
  have C_is_pair := ok_is_pair h
  have C_is_sizes := ok_is_sizes h
  have C_least_of := ok_least_of h
  exact ⟨f, fd, fnP F sc_is_face rfl (fun cdv A outer s H E hr => (pxs_cons (pxs_if (pxt_w (pxw_or (pxt_not (pxt_val (px_call C_is_pair hr (by decide) rfl (pxa_cons (pr_var 0) pxa_nil)))) (pxw_or (pxt_not (pxt_val (px_call C_is_name_row hr (by decide) rfl (pxa_cons (pr_of (px_ix (u65 hr) (pr_var 0) px_int)) (pxa_cons (pr_of px_int) pxa_nil))))) (pxw_or1 (pxt_not (pxt_val (px_isi kit_tup rfl h.b_isinstance rfl h.b_tuple boot_tuple (pr_of (px_ix (u65 hr) (pr_var 0) px_int))))))))) (pxs_one (pxs_ret px_bl)) pxs_nil) (pxs_cons (pxs_set (i := 1) sc_is_face.nd rfl (Or.inl rfl) (px_call C_all_arrangements hr (by decide) rfl (pxa_cons (pr_of (px_callB cr_len rfl h.b_len boot_len (pxa_cons (pr_of (px_ix (u65 hr) (pr_var 0) px_int)) pxa_nil))) pxa_nil))) (pxs_cons (pxs_if (pxt_cmp (op_neD' (u64 hr)) (px_callB cr_len rfl h.b_len boot_len (pxa_cons (pr_var 1) pxa_nil)) (px_callB cr_len rfl h.b_len boot_len (pxa_cons (pr_of (px_ix (u65 hr) (pr_var 0) px_int)) pxa_nil))) (pxs_one (pxs_ret px_bl)) pxs_nil) (pxs_cons (pxs_for PassesOwn.never rfl (pxi_zip rfl h.b_zip (px_var 1) (px_ix (u65 hr) (pr_var 0) px_int)) (pxg_tup (is := [2, 3]) rfl (pgs_cons (pg_name (i := 2) sc_is_face.nd rfl (Or.inl rfl)) (pgs_cons (pg_name (i := 3) sc_is_face.nd rfl (Or.inl rfl)) pgs_nil))) (pxs_one (pxs_if (pxt_w (pxw_or (pxt_not (pxt_val (px_call C_is_sizes hr (by decide) rfl (pxa_cons (pr_var 3) pxa_nil)))) (pxw_or1 (pxt_chain op_ltD op_ltD px_int (px_call C_least_of hr (by decide) rfl (pxa_cons (pr_var 3) pxa_nil)) (px_call C_class_total hr (by decide) rfl (pxa_cons (pr_var 2) pxa_nil)))))) (pxs_one (pxs_ret px_bl)) pxs_nil))) (pxs_one (pxs_ret px_bl))))))) pure_is_face, m, F.kp, F.bindsN fun _ _ _ _ _ _ us hl => match us, hl with | [_], _ => rfl⟩
abbrev N_is_question : List Str := ["value", "word"]
theorem sc_is_question : FnScope N_is_question ["value"] (defScope s_is_question) := ⟨rfl, rfl, rfl, by decide +kernel, rfl, by decide +kernel, by decide +kernel⟩
theorem ok_is_question (h : HD P w K mg base) : Cal P w K mg base "is_question" 4 1 ["value"] T_is_question := by
  obtain ⟨f, fd, F, m⟩ := h.f_is_question
  have C_are_names := ok_are_names h
  have C_is_name_text := ok_is_name_text h
  have C_is_number := ok_is_number h
  have C_is_region := ok_is_region h
  have C_is_triple := ok_is_triple h
  exact ⟨f, fd, fnP F sc_is_question rfl (fun cdv A outer s H E hr => (pxs_cons (pxs_if (pxt_w (pxw_or (pxt_not (pxt_val (px_isi kit_tup rfl h.b_isinstance rfl h.b_tuple boot_tuple (pr_var 0)))) (pxw_or1 (pxt_not (pxt_tru (pr_var 0)))))) (pxs_one (pxs_ret px_bl)) pxs_nil) (pxs_cons (pxs_set (i := 1) sc_is_question.nd rfl (Or.inl rfl) (px_ix (u65 hr) (pr_var 0) px_int)) (pxs_cons (pxs_if (pxt_in (u65 hr) (px_var 1) (pr_of (px_tup (pxa_cons (pr_of px_str) (pxa_cons (pr_of px_str) pxa_nil))))) (pxs_one (pxs_ret (px_and (px_call C_is_triple hr (by decide) rfl (pxa_cons (pr_var 0) pxa_nil)) (px_and (px_call C_are_names hr (by decide) rfl (pxa_cons (pr_of (px_tail (px_var 0))) pxa_nil)) (px_one (px_cmp op_ltD (px_ix (u65 hr) (pr_var 0) px_int) (px_ix (u65 hr) (pr_var 0) px_int))))))) pxs_nil) (pxs_cons (pxs_if (pxt_cmp (op_eqD' (u64 hr)) (px_var 1) px_str) (pxs_one (pxs_ret (px_and (px_cmp (op_eqD' (u64 hr)) (px_callB cr_len rfl h.b_len boot_len (pxa_cons (pr_var 0) pxa_nil)) px_int) (px_one (px_call C_is_number hr (by decide) rfl (pxa_cons (pr_of (px_ix (u65 hr) (pr_var 0) px_int)) (pxa_cons (pr_of px_int) (pxa_cons (pr_of px_int) pxa_nil)))))))) pxs_nil) (pxs_cons (pxs_if (pxt_cmp (op_eqD' (u64 hr)) (px_var 1) px_str) (pxs_one (pxs_ret (px_and (px_call C_is_triple hr (by decide) rfl (pxa_cons (pr_var 0) pxa_nil)) (px_one (px_call C_are_names hr (by decide) rfl (pxa_cons (pr_of (px_tail (px_var 0))) pxa_nil)))))) pxs_nil) (pxs_cons (pxs_if (pxt_cmp (op_eqD' (u64 hr)) (px_var 1) px_str) (pxs_one (pxs_ret (px_and (px_call C_is_triple hr (by decide) rfl (pxa_cons (pr_var 0) pxa_nil)) (px_and (px_call C_is_region hr (by decide) rfl (pxa_cons (pr_of (px_ix (u65 hr) (pr_var 0) px_int)) pxa_nil)) (px_one (px_call C_is_number hr (by decide) rfl (pxa_cons (pr_of (px_ix (u65 hr) (pr_var 0) px_int)) (pxa_cons (pr_of px_int) (pxa_cons (pr_of px_int) pxa_nil))))))))) pxs_nil) (pxs_cons (pxs_if (pxt_cmp (op_eqD' (u64 hr)) (px_var 1) px_str) (pxs_one (pxs_ret (px_cmp (op_eqD' (u64 hr)) (px_callB cr_len rfl h.b_len boot_len (pxa_cons (pr_var 0) pxa_nil)) px_int))) pxs_nil) (pxs_one (pxs_ret (px_and (px_cmp (op_eqD' (u64 hr)) (px_var 1) px_str) (px_and (px_cmp (op_eqD' (u64 hr)) (px_callB cr_len rfl h.b_len boot_len (pxa_cons (pr_var 0) pxa_nil)) px_int) (px_one (px_call C_is_name_text hr (by decide) rfl (pxa_cons (pr_of (px_ix (u65 hr) (pr_var 0) px_int)) pxa_nil))))))))))))))) pure_is_question, m, F.kp, F.bindsN fun _ _ _ _ _ _ us hl => match us, hl with | [_], _ => rfl⟩
abbrev N_told_by : List Str := ["face", "known", "found", "arrangement"]
theorem sc_told_by : FnScope N_told_by ["face", "known"] (defScope s_told_by) := ⟨rfl, rfl, rfl, by decide +kernel, rfl, by decide +kernel, by decide +kernel⟩
theorem ok_told_by (h : HD P w K mg base) : Cal P w K mg base "told_by" 4 2 ["face", "known"] T_told_by := by
  obtain ⟨f, fd, F, m⟩ := h.f_told_by
  have C_finest_below := ok_finest_below h
  have C_let_by := ok_let_by h
  have C_refines := ok_refines h
  exact ⟨f, fd, fnP F sc_told_by rfl (fun cdv A outer s H E hr => (pxs_cons (pxs_set (i := 2) sc_told_by.nd rfl (Or.inl rfl) px_non) (pxs_cons (pxs_for PassesOwn.never rfl (pxi_x (px_call C_let_by hr (by decide) rfl (pxa_cons (pr_var 0) pxa_nil))) (pxg_name (i := 3) sc_told_by.nd rfl (Or.inl rfl)) (pxs_one (pxs_if (pxt_val (px_call C_refines hr (by decide) rfl (pxa_cons (pr_var 1) (pxa_cons (pr_var 3) pxa_nil)))) (pxs_one (pxs_if (pxt_cmp op_isND (px_var 2) px_non) (pxs_one (pxs_move (j := 3) (i := 2) sc_told_by.nd rfl (Or.inl rfl))) (pxs_one (pxs_set (i := 2) sc_told_by.nd rfl (Or.inl rfl) (px_call C_finest_below hr (by decide) rfl (pxa_cons (pr_var 2) (pxa_cons (pr_var 3) pxa_nil))))))) pxs_nil))) (pxs_one (pxs_retV 2))))) pure_told_by, m, F.kp, F.bindsN fun _ _ _ _ _ _ us hl => match us, hl with | [_, _], _ => rfl⟩
abbrev N_face_keeping : List Str := ["names", "facts", "low", "high", "sizes", "rows", "arrangement"]
theorem sc_face_keeping : FnScope N_face_keeping ["names", "facts"] (defScope s_face_keeping) := ⟨rfl, rfl, rfl, by decide +kernel, rfl, by decide +kernel, by decide +kernel⟩
theorem ok_face_keeping (h : HD P w K mg base) : Cal P w K mg base "face_keeping" 4 2 ["names", "facts"] T_face_keeping := by
  obtain ⟨f, fd, F, m⟩ := h.f_face_keeping
  have C_all_arrangements := ok_all_arrangements h
  have C_bounds_of := ok_bounds_of h
  have C_common_sizes := ok_common_sizes h
  have C_fits := ok_fits h
  have C_full_row := ok_full_row h
  have C_sizes_between := ok_sizes_between h
  exact ⟨f, fd, fnP F sc_face_keeping rfl (fun cdv A outer s H E hr => (pxs_cons (pxs_asg (px_call C_bounds_of hr (by decide) rfl (pxa_cons (pr_var 1) pxa_nil)) (pxg_tup (is := [2, 3]) rfl (pgs_cons (pg_name (i := 2) sc_face_keeping.nd rfl (Or.inl rfl)) (pgs_cons (pg_name (i := 3) sc_face_keeping.nd rfl (Or.inl rfl)) pgs_nil)))) (pxs_cons (pxs_set (i := 4) sc_face_keeping.nd rfl (Or.inl rfl) (px_call C_sizes_between hr (by decide) rfl (pxa_cons (pr_var 2) (pxa_cons (pr_var 3) pxa_nil)))) (pxs_cons (pxs_setF (i := 5) sc_face_keeping.nd rfl (Or.inl rfl) (pf_lst pxa_nil)) (pxs_cons (pxs_for PassesOwn.never rfl (pxi_x (px_call C_all_arrangements hr (by decide) rfl (pxa_cons (pr_of (px_callB cr_len rfl h.b_len boot_len (pxa_cons (pr_var 0) pxa_nil))) pxa_nil))) (pxg_name (i := 6) sc_face_keeping.nd rfl (Or.inl rfl)) (pxs_one (pxs_if (pxt_val (px_call C_fits hr (by decide) rfl (pxa_cons (pr_var 0) (pxa_cons (pr_var 6) (pxa_cons (pr_var 1) pxa_nil))))) (pxs_one (pxs_app 5 (px_call C_common_sizes hr (by decide) rfl (pxa_cons (pr_var 4) (pxa_cons (pr_of (px_call C_full_row hr (by decide) rfl (pxa_cons (pr_var 6) pxa_nil))) pxa_nil))))) (pxs_one (pxs_app 5 (px_tup (pxa_cons (pr_of (px_tup pxa_nil)) (pxa_cons (pr_of px_int) pxa_nil)))))))) (pxs_one (pxs_ret (px_tup (pxa_cons (pr_var 0) (pxa_cons (pr_of (px_callTy cr_tuple rfl h.b_tuple boot_tuple (pxa_cons (pr_var 5) pxa_nil))) pxa_nil)))))))))) pure_face_keeping, m, F.kp, F.bindsN fun _ _ _ _ _ _ us hl => match us, hl with | [_, _], _ => rfl⟩
abbrev N_ender : List Str := ["faces", "state", "place"]
theorem sc_ender : FnScope N_ender ["faces", "state"] (defScope s_ender) := ⟨rfl, rfl, rfl, by decide +kernel, rfl, by decide +kernel, by decide +kernel⟩
theorem ok_ender (h : HD P w K mg base) : Cal P w K mg base "ender" 4 2 ["faces", "state"] T_ender := by
  obtain ⟨f, fd, F, m⟩ := h.f_ender
  have C_is_ended := ok_is_ended h
  exact ⟨f, fd, fnP F sc_ender rfl (fun cdv A outer s H E hr => (pxs_cons (pxs_for PassesOwn.never rfl (pxi_r1 rfl h.b_range (px_callB cr_len rfl h.b_len boot_len (pxa_cons (pr_var 0) pxa_nil))) (pxg_name (i := 2) sc_ender.nd rfl (Or.inl rfl)) (pxs_one (pxs_if (pxt_val (px_call C_is_ended hr (by decide) rfl (pxa_cons (pr_of (px_ix (u65 hr) (pr_var 0) (px_var 2))) (pxa_cons (pr_var 1) pxa_nil)))) (pxs_one (pxs_retV 2)) pxs_nil))) (pxs_one (pxs_ret (px_neg px_int))))) pure_ender, m, F.kp, F.bindsN fun _ _ _ _ _ _ us hl => match us, hl with | [_, _], _ => rfl⟩
abbrev N__law_told : List Str := ["face", "known", "lets", "told", "row"]
theorem sc__law_told : FnScope N__law_told ["face", "known"] (defScope s__law_told) := ⟨rfl, rfl, rfl, by decide +kernel, rfl, by decide +kernel, by decide +kernel⟩
theorem ok__law_told (h : HD P w K mg base) : Cal P w K mg base "_law_told" 4 2 ["face", "known"] T__law_told := by
  obtain ⟨f, fd, F, m⟩ := h.f__law_told
  have C__law_lets := ok__law_lets h
  have C__law_met := ok__law_met h
  exact ⟨f, fd, fnP F sc__law_told rfl (fun cdv A outer s H E hr => (pxs_cons (pxs_set (i := 2) sc__law_told.nd rfl (Or.inl rfl) (px_call C__law_lets hr (by decide) rfl (pxa_cons (pr_var 0) (pxa_cons (pr_var 1) pxa_nil)))) (pxs_cons (pxs_if (pxt_not (pxt_tru (pr_var 2))) (pxs_one (pxs_ret px_non)) pxs_nil) (pxs_cons (pxs_set (i := 3) sc__law_told.nd rfl (Or.inl rfl) (px_ix (u65 hr) (pr_var 2) px_int)) (pxs_cons (pxs_for PassesOwn.never rfl (pxi_v 2) (pxg_name (i := 4) sc__law_told.nd rfl (Or.inl rfl)) (pxs_one (pxs_set (i := 3) sc__law_told.nd rfl (Or.inl rfl) (px_call C__law_met hr (by decide) rfl (pxa_cons (pr_var 3) (pxa_cons (pr_var 4) pxa_nil)))))) (pxs_one (pxs_retV 3))))))) pure__law_told, m, F.kp, F.bindsN fun _ _ _ _ _ _ us hl => match us, hl with | [_, _], _ => rfl⟩
abbrev N__law_fit : List Str := ["face", "arranged", "lets", "one", "other", "row"]
theorem sc__law_fit : FnScope N__law_fit ["face"] (defScope s__law_fit) := ⟨rfl, rfl, rfl, by decide +kernel, rfl, by decide +kernel, by decide +kernel⟩
theorem ok__law_fit (h : HD P w K mg base) : Cal P w K mg base "_law_fit" 4 1 ["face"] T__law_fit := by
  obtain ⟨f, fd, F, m⟩ := h.f__law_fit
  have C__law_arrangements := ok__law_arrangements h
  have C__law_lets := ok__law_lets h
  have C__law_met := ok__law_met h
  exact ⟨f, fd, fnP F sc__law_fit rfl (fun cdv A outer s H E hr => (pxs_cons (pxs_set (i := 1) sc__law_fit.nd rfl (Or.inl rfl) (px_call C__law_arrangements hr (by decide) rfl (pxa_cons (pr_of (px_callB cr_len rfl h.b_len boot_len (pxa_cons (pr_of (px_ix (u65 hr) (pr_var 0) px_int)) pxa_nil))) pxa_nil))) (pxs_cons (pxs_set (i := 2) sc__law_fit.nd rfl (Or.inl rfl) (px_call C__law_lets hr (by decide) rfl (pxa_cons (pr_var 0) (pxa_cons (pr_of (px_callTy cr_tuple rfl h.b_tuple boot_tuple (pxa_cons (pr_of (px_of (pf_listRg1 rfl rfl h.b_list rfl h.b_range (px_callB cr_len rfl h.b_len boot_len (pxa_cons (pr_of (px_ix (u65 hr) (pr_var 0) px_int)) pxa_nil))))) pxa_nil))) pxa_nil)))) (pxs_cons (pxs_for PassesOwn.never rfl (pxi_v 2) (pxg_name (i := 3) sc__law_fit.nd rfl (Or.inl rfl)) (pxs_one (pxs_for PassesOwn.never rfl (pxi_v 2) (pxg_name (i := 4) sc__law_fit.nd rfl (Or.inl rfl)) (pxs_one (pxs_if (pxt_notIn (u65 hr) (px_call C__law_met hr (by decide) rfl (pxa_cons (pr_var 3) (pxa_cons (pr_var 4) pxa_nil))) (pr_var 2)) (pxs_one (pxs_ret px_bl)) pxs_nil))))) (pxs_one (pxs_ret (px_and (px_cmp (op_eqD' (u64 hr)) (px_callB cr_len rfl h.b_len boot_len (pxa_cons (pr_var 1) pxa_nil)) (px_callB cr_len rfl h.b_len boot_len (pxa_cons (pr_of (px_ix (u65 hr) (pr_var 0) px_int)) pxa_nil))) (px_one (px_not (pr_of (px_of (pf_lc rfl sc__law_fit.nd (pxj_x (px_ix (u65 hr) (pr_var 0) px_int)) (blkOk_by (own := [("row", 5)]) (N := N__law_fit) (sc := defScope s__law_fit) (by decide +kernel)) (by decide) (fun _ _ _ _ _ => (ct_name (i := 5) sc__law_fit.nd rfl (Or.inl rfl) (.inr rfl))) (fun _ _ _ _ _ => (pxts_one (pxt_w (pxw_and (pxt_tru (pr_of (px_ix (u65 hr) (pr_var 5) px_int))) (pxw_and1 (pxt_cmp (op_eqD' (u64 hr)) (px_ix (u65 hr) (pr_var 5) px_int) px_int)))))) (fun _ _ _ _ _ => (px_var 5)))))))))))))) pure__law_fit, m, F.kp, F.bindsN fun _ _ _ _ _ _ us hl => match us, hl with | [_], _ => rfl⟩
abbrev N_passed_on : List Str := ["faces", "known", "steps", "quiet", "place", "told"]
theorem sc_passed_on : FnScope N_passed_on ["faces"] (defScope s_passed_on) := ⟨rfl, rfl, rfl, by decide +kernel, rfl, by decide +kernel, by decide +kernel⟩
theorem ok_passed_on (h : HD P w K mg base) : Cal P w K mg base "passed_on" 5 1 ["faces"] T_passed_on := by
  obtain ⟨f, fd, F, m⟩ := h.f_passed_on
  have C_told_by := ok_told_by h
  exact ⟨f, fd, fnP F sc_passed_on rfl (fun cdv A outer s H E hr => (pxs_cons (pxs_set (i := 1) sc_passed_on.nd rfl (Or.inl rfl) (px_callTy cr_tuple rfl h.b_tuple boot_tuple (pxa_cons (pr_of (px_of (pf_listRg1 rfl rfl h.b_list rfl h.b_range (px_callB cr_len rfl h.b_len boot_len (pxa_cons (pr_of (px_ix (u65 hr) (pr_of (px_ix (u65 hr) (pr_var 0) px_int)) px_int)) pxa_nil))))) pxa_nil))) (pxs_cons (pxs_setF (i := 2) sc_passed_on.nd rfl (Or.inl rfl) (pf_lst pxa_nil)) (pxs_cons (pxs_set (i := 3) sc_passed_on.nd rfl (Or.inl rfl) px_int) (pxs_cons (pxs_set (i := 4) sc_passed_on.nd rfl (Or.inl rfl) px_int) (pxs_cons (pxs_while PassesOwn.never (pxt_cmp op_ltD (px_var 3) (px_callB cr_len rfl h.b_len boot_len (pxa_cons (pr_var 0) pxa_nil))) (pxs_cons (pxs_set (i := 5) sc_passed_on.nd rfl (Or.inl rfl) (px_call C_told_by hr (by decide) rfl (pxa_cons (pr_of (px_ix (u65 hr) (pr_var 0) (px_var 4))) (pxa_cons (pr_var 1) pxa_nil)))) (pxs_cons (pxs_if (pxt_cmp op_isND (px_var 5) px_non) (pxs_one (pxs_ret (px_tup (pxa_cons (pr_of px_str) (pxa_cons (pr_of (px_callTy cr_tuple rfl h.b_tuple boot_tuple (pxa_cons (pr_var 2) pxa_nil))) pxa_nil))))) pxs_nil) (pxs_cons (pxs_aug (i := 3) sc_passed_on.nd rfl (Or.inl rfl) px_int ip_add) (pxs_cons (pxs_if (pxt_cmp (op_neD' (u64 hr)) (px_var 5) (px_var 1)) (pxs_cons (pxs_move (j := 5) (i := 1) sc_passed_on.nd rfl (Or.inl rfl)) (pxs_cons (pxs_app 2 (px_tup (pxa_cons (pr_var 4) (pxa_cons (pr_var 1) pxa_nil)))) (pxs_one (pxs_set (i := 3) sc_passed_on.nd rfl (Or.inl rfl) px_int)))) pxs_nil) (pxs_one (pxs_set (i := 4) sc_passed_on.nd rfl (Or.inl rfl) (px_bin op_modD (px_bin op_addD (px_var 4) px_int) (px_callB cr_len rfl h.b_len boot_len (pxa_cons (pr_var 0) pxa_nil)))))))))) (pxs_one (pxs_ret (px_tup (pxa_cons (pr_of px_str) (pxa_cons (pr_of (px_callTy cr_tuple rfl h.b_tuple boot_tuple (pxa_cons (pr_var 2) pxa_nil))) pxa_nil))))))))))) pure_passed_on, m, F.kp, F.bindsN fun _ _ _ _ _ _ us hl => match us, hl with | [_], _ => rfl⟩
abbrev N_are_faces : List Str := ["value", "most", "face"]
theorem sc_are_faces : FnScope N_are_faces ["value", "most"] (defScope s_are_faces) := ⟨rfl, rfl, rfl, by decide +kernel, rfl, by decide +kernel, by decide +kernel⟩
theorem ok_are_faces (h : HD P w K mg base) : Cal P w K mg base "are_faces" 5 2 ["value", "most"] T_are_faces := by
  obtain ⟨f, fd, F, m⟩ := h.f_are_faces
  have C_is_face := ok_is_face h
  exact ⟨f, fd, fnP F sc_are_faces rfl (fun cdv A outer s H E hr => (pxs_cons (pxs_if (pxt_w (pxw_or (pxt_not (pxt_val (px_isi kit_tup rfl h.b_isinstance rfl h.b_tuple boot_tuple (pr_var 0)))) (pxw_or1 (pxt_not (pxt_tru (pr_var 0)))))) (pxs_one (pxs_ret px_bl)) pxs_nil) (pxs_cons (pxs_for PassesOwn.never rfl (pxi_v 0) (pxg_name (i := 2) sc_are_faces.nd rfl (Or.inl rfl)) (pxs_one (pxs_if (pxt_w (pxw_or (pxt_not (pxt_val (px_call C_is_face hr (by decide) rfl (pxa_cons (pr_var 2) pxa_nil)))) (pxw_or1 (pxt_cmp (op_neD' (u64 hr)) (px_ix (u65 hr) (pr_var 2) px_int) (px_ix (u65 hr) (pr_of (px_ix (u65 hr) (pr_var 0) px_int)) px_int))))) (pxs_one (pxs_ret px_bl)) pxs_nil))) (pxs_one (pxs_ret (px_cmp op_leD (px_callB cr_len rfl h.b_len boot_len (pxa_cons (pr_of (px_ix (u65 hr) (pr_of (px_ix (u65 hr) (pr_var 0) px_int)) px_int)) pxa_nil)) (px_var 1))))))) pure_are_faces, m, F.kp, F.bindsN fun _ _ _ _ _ _ us hl => match us, hl with | [_, _], _ => rfl⟩
abbrev N_met_faces : List Str := ["names", "faces", "told", "face"]
theorem sc_met_faces : FnScope N_met_faces ["names", "faces"] (defScope s_met_faces) := ⟨rfl, rfl, rfl, by decide +kernel, rfl, by decide +kernel, by decide +kernel⟩
theorem ok_met_faces (h : HD P w K mg base) : Cal P w K mg base "met_faces" 5 2 ["names", "faces"] T_met_faces := by
  obtain ⟨f, fd, F, m⟩ := h.f_met_faces
  have C_meet_faces := ok_meet_faces h
  have C_whole_face := ok_whole_face h
  exact ⟨f, fd, fnP F sc_met_faces rfl (fun cdv A outer s H E hr => (pxs_cons (pxs_set (i := 2) sc_met_faces.nd rfl (Or.inl rfl) (px_call C_whole_face hr (by decide) rfl (pxa_cons (pr_var 0) pxa_nil))) (pxs_cons (pxs_for PassesOwn.never rfl (pxi_v 1) (pxg_name (i := 3) sc_met_faces.nd rfl (Or.inl rfl)) (pxs_one (pxs_set (i := 2) sc_met_faces.nd rfl (Or.inl rfl) (px_call C_meet_faces hr (by decide) rfl (pxa_cons (pr_var 2) (pxa_cons (pr_var 3) pxa_nil)))))) (pxs_one (pxs_retV 2))))) pure_met_faces, m, F.kp, F.bindsN fun _ _ _ _ _ _ us hl => match us, hl with | [_, _], _ => rfl⟩
abbrev N_all_states : List Str := ["names", "faces", "mark", "found", "waiting", "state", "question", "one", "other"]
theorem sc_all_states : FnScope N_all_states ["names", "faces", "mark"] (defScope s_all_states) := ⟨rfl, rfl, rfl, by decide +kernel, rfl, by decide +kernel, by decide +kernel⟩
theorem ok_all_states (h : HD P w K mg base) : Cal P w K mg base "all_states" 5 3 ["names", "faces", "mark"] T_all_states := by
  obtain ⟨f, fd, F, m⟩ := h.f_all_states
  have C_ender := ok_ender h
  have C_partings := ok_partings h
  have C_start_state := ok_start_state h
  exact ⟨f, fd, fnP F sc_all_states rfl (fun cdv A outer s H E hr => (pxs_cons (pxs_newD (i := 3) sc_all_states.nd rfl (Or.inl rfl)) (pxs_cons (pxs_setF (i := 4) sc_all_states.nd rfl (Or.inl rfl) (pf_lst (pxa_cons (pr_of (px_call C_start_state hr (by decide) rfl (pxa_cons (pr_of (px_callB cr_len rfl h.b_len boot_len (pxa_cons (pr_var 0) pxa_nil))) pxa_nil))) pxa_nil))) (pxs_cons (pxs_while PassesOwn.never (pxt_tru (pr_var 4)) (pxs_cons (pxs_pop 4 (pxg_name (i := 5) sc_all_states.nd rfl (Or.inl rfl))) (pxs_one (pxs_if (pxt_notIn (u65 hr) (px_var 5) (pr_var 3)) (pxs_cons (pxs_put 3 (u65 hr) (px_var 5) (px_call C_ender hr (by decide) rfl (pxa_cons (pr_var 1) (pxa_cons (pr_var 5) pxa_nil)))) (pxs_one (pxs_if (pxt_cmp (op_eqD' (u64 hr)) (px_ix (u65 hr) (pr_var 3) (px_var 5)) (px_neg px_int)) (pxs_one (pxs_for PassesOwn.never rfl (pxi_x (px_call C_partings hr (by decide) rfl (pxa_cons (pr_var 5) (pxa_cons (pr_var 0) (pxa_cons (pr_var 2) pxa_nil))))) (pxg_tup (is := [6, 7, 8]) rfl (pgs_cons (pg_name (i := 6) sc_all_states.nd rfl (Or.inl rfl)) (pgs_cons (pg_name (i := 7) sc_all_states.nd rfl (Or.inl rfl)) (pgs_cons (pg_name (i := 8) sc_all_states.nd rfl (Or.inl rfl)) pgs_nil)))) (pxs_cons (pxs_app 4 (px_var 7)) (pxs_one (pxs_app 4 (px_var 8)))))) pxs_nil))) pxs_nil)))) (pxs_one (pxs_retV 3)))))) pure_all_states, m, F.kp, F.bindsN fun _ _ _ _ _ _ us hl => match us, hl with | [_, _, _], _ => rfl⟩
abbrev N_split_answers : List Str := ["value", "names"]
theorem sc_split_answers : FnScope N_split_answers ["value", "names"] (defScope s_split_answers) := ⟨rfl, rfl, rfl, by decide +kernel, rfl, by decide +kernel, by decide +kernel⟩
theorem ok_split_answers (h : HD P w K mg base) : Cal P w K mg base "split_answers" 5 2 ["value", "names"] T_split_answers := by
  obtain ⟨f, fd, F, m⟩ := h.f_split_answers
  have C_answers := ok_answers h
  have C_is_question := ok_is_question h
  have C_is_shared_question := ok_is_shared_question h
  have C_is_triple := ok_is_triple h
  exact ⟨f, fd, fnP F sc_split_answers rfl (fun cdv A outer s H E hr => (pxs_cons (pxs_if (pxt_w (pxw_or (pxt_not (pxt_val (px_call C_is_triple hr (by decide) rfl (pxa_cons (pr_var 0) pxa_nil)))) (pxw_or (pxt_cmp (op_neD' (u64 hr)) (px_ix (u65 hr) (pr_var 0) px_int) px_str) (pxw_or (pxt_not (pxt_val (px_call C_is_question hr (by decide) rfl (pxa_cons (pr_of (px_ix (u65 hr) (pr_var 0) px_int)) pxa_nil)))) (pxw_or1 (pxt_not (pxt_val (px_call C_is_shared_question hr (by decide) rfl (pxa_cons (pr_of (px_ix (u65 hr) (pr_var 0) px_int)) pxa_nil))))))))) (pxs_one (pxs_ret px_non)) pxs_nil) (pxs_cons (pxs_if (pxt_w (pxw_and (pxt_cmp (op_eqD' (u64 hr)) (px_ix (u65 hr) (pr_of (px_ix (u65 hr) (pr_var 0) px_int)) px_int) px_str) (pxw_and1 (pxt_w (pxw_or (pxt_notIn (u65 hr) (px_ix (u65 hr) (pr_of (px_ix (u65 hr) (pr_var 0) px_int)) px_int) (pr_var 1)) (pxw_or1 (pxt_notIn (u65 hr) (px_ix (u65 hr) (pr_of (px_ix (u65 hr) (pr_var 0) px_int)) px_int) (pr_var 1)))))))) (pxs_one (pxs_ret px_non)) pxs_nil) (pxs_cons (pxs_if (pxt_w (pxw_or (pxt_not (pxt_val (px_isi kit_tup rfl h.b_isinstance rfl h.b_tuple boot_tuple (pr_of (px_ix (u65 hr) (pr_var 0) px_int))))) (pxw_or1 (pxt_cmp (op_neD' (u64 hr)) (px_callB cr_len rfl h.b_len boot_len (pxa_cons (pr_of (px_ix (u65 hr) (pr_var 0) px_int)) pxa_nil)) px_int)))) (pxs_one (pxs_ret px_non)) pxs_nil) (pxs_one (pxs_ret (px_call C_answers hr (by decide) rfl (pxa_cons (pr_of (px_ix (u65 hr) (pr_var 0) px_int)) (pxa_cons (pr_of (px_tup pxa_nil)) (pxa_cons (pr_of (px_tup pxa_nil)) pxa_nil)))))))))) pure_split_answers, m, F.kp, F.bindsN fun _ _ _ _ _ _ us hl => match us, hl with | [_, _], _ => rfl⟩
abbrev N_is_split_end : List Str := ["value", "faces", "facts", "face"]
theorem sc_is_split_end : FnScope N_is_split_end ["value", "faces", "facts"] (defScope s_is_split_end) := ⟨rfl, rfl, rfl, by decide +kernel, rfl, by decide +kernel, by decide +kernel⟩
theorem ok_is_split_end (h : HD P w K mg base) : Cal P w K mg base "is_split_end" 5 3 ["value", "faces", "facts"] T_is_split_end := by
  obtain ⟨f, fd, F, m⟩ := h.f_is_split_end
  have C_face_keeping := ok_face_keeping h
  have C_is_number := ok_is_number h
  have C_meet_faces := ok_meet_faces h
  have C_no_cells := ok_no_cells h
  exact ⟨f, fd, fnP F sc_is_split_end rfl (fun cdv A outer s H E hr => (pxs_cons (pxs_if (pxt_not (pxt_val (px_call C_is_number hr (by decide) rfl (pxa_cons (pr_of (px_ix (u65 hr) (pr_var 0) px_int)) (pxa_cons (pr_of px_int) (pxa_cons (pr_of (px_bin op_subD (px_callB cr_len rfl h.b_len boot_len (pxa_cons (pr_var 1) pxa_nil)) px_int)) pxa_nil)))))) (pxs_one (pxs_ret px_bl)) pxs_nil) (pxs_cons (pxs_set (i := 3) sc_is_split_end.nd rfl (Or.inl rfl) (px_ix (u65 hr) (pr_var 1) (px_ix (u65 hr) (pr_var 0) px_int))) (pxs_one (pxs_ret (px_call C_no_cells hr (by decide) rfl (pxa_cons (pr_of (px_call C_meet_faces hr (by decide) rfl (pxa_cons (pr_var 3) (pxa_cons (pr_of (px_call C_face_keeping hr (by decide) rfl (pxa_cons (pr_of (px_ix (u65 hr) (pr_var 3) px_int)) (pxa_cons (pr_var 2) pxa_nil)))) pxa_nil)))) pxa_nil))))))) pure_is_split_end, m, F.kp, F.bindsN fun _ _ _ _ _ _ us hl => match us, hl with | [_, _, _], _ => rfl⟩
abbrev N__law_exchange : List Str := ["many", "known", "steps", "quiet", "turn", "place", "told"]
theorem sc__law_exchange : FnScope N__law_exchange ["many"] (defScope s__law_exchange) := ⟨rfl, rfl, rfl, by decide +kernel, rfl, by decide +kernel, by decide +kernel⟩
theorem ok__law_exchange (h : HD P w K mg base) : Cal P w K mg base "_law_exchange" 5 1 ["many"] T__law_exchange := by
  obtain ⟨f, fd, F, m⟩ := h.f__law_exchange
  have C__law_told := ok__law_told h
  exact ⟨f, fd, fnP F sc__law_exchange rfl (fun cdv A outer s H E hr => (pxs_cons (pxs_set (i := 1) sc__law_exchange.nd rfl (Or.inl rfl) (px_callTy cr_tuple rfl h.b_tuple boot_tuple (pxa_cons (pr_of (px_of (pf_listRg1 rfl rfl h.b_list rfl h.b_range (px_callB cr_len rfl h.b_len boot_len (pxa_cons (pr_of (px_ix (u65 hr) (pr_of (px_ix (u65 hr) (pr_var 0) px_int)) px_int)) pxa_nil))))) pxa_nil))) (pxs_cons (pxs_setF (i := 2) sc__law_exchange.nd rfl (Or.inl rfl) (pf_lst pxa_nil)) (pxs_cons (pxs_set (i := 3) sc__law_exchange.nd rfl (Or.inl rfl) px_int) (pxs_cons (pxs_for PassesOwn.never rfl (pxi_r1 rfl h.b_range px_int) (pxg_name (i := 4) sc__law_exchange.nd rfl (Or.inl rfl)) (pxs_cons (pxs_set (i := 5) sc__law_exchange.nd rfl (Or.inl rfl) (px_bin op_modD (px_callTy cr_int rfl h.b_int boot_int (pxa_cons (pr_var 4) pxa_nil)) (px_callB cr_len rfl h.b_len boot_len (pxa_cons (pr_var 0) pxa_nil)))) (pxs_cons (pxs_set (i := 6) sc__law_exchange.nd rfl (Or.inl rfl) (px_call C__law_told hr (by decide) rfl (pxa_cons (pr_of (px_ix (u65 hr) (pr_var 0) (px_var 5))) (pxa_cons (pr_var 1) pxa_nil)))) (pxs_cons (pxs_if (pxt_cmp op_isND (px_var 6) px_non) (pxs_one (pxs_ret (px_tup (pxa_cons (pr_of px_str) (pxa_cons (pr_of (px_callTy cr_tuple rfl h.b_tuple boot_tuple (pxa_cons (pr_var 2) pxa_nil))) (pxa_cons (pr_var 5) pxa_nil)))))) pxs_nil) (pxs_cons (pxs_set (i := 3) sc__law_exchange.nd rfl (Or.inl rfl) (px_bin op_addD (px_var 3) px_int)) (pxs_cons (pxs_if (pxt_cmp (op_neD' (u64 hr)) (px_var 6) (px_var 1)) (pxs_cons (pxs_move (j := 6) (i := 1) sc__law_exchange.nd rfl (Or.inl rfl)) (pxs_cons (pxs_app 2 (px_tup (pxa_cons (pr_var 5) (pxa_cons (pr_var 1) pxa_nil)))) (pxs_one (pxs_set (i := 3) sc__law_exchange.nd rfl (Or.inl rfl) px_int)))) pxs_nil) (pxs_one (pxs_if (pxt_cmp (op_eqD' (u64 hr)) (px_var 3) (px_callB cr_len rfl h.b_len boot_len (pxa_cons (pr_var 0) pxa_nil))) (pxs_one (pxs_ret (px_tup (pxa_cons (pr_of px_str) (pxa_cons (pr_of (px_callTy cr_tuple rfl h.b_tuple boot_tuple (pxa_cons (pr_var 2) pxa_nil))) (pxa_cons (pr_of (px_neg px_int)) pxa_nil)))))) pxs_nil)))))))) (pxs_one (pxs_ret (px_tup (pxa_cons (pr_of px_str) (pxa_cons (pr_of (px_callTy cr_tuple rfl h.b_tuple boot_tuple (pxa_cons (pr_var 2) pxa_nil))) (pxa_cons (pr_of (px_neg px_int)) pxa_nil))))))))))) pure__law_exchange, m, F.kp, F.bindsN fun _ _ _ _ _ _ us hl => match us, hl with | [_], _ => rfl⟩
abbrev N_exchange : List Str := ["faces"]
theorem sc_exchange : FnScope N_exchange ["faces"] (defScope s_exchange) := ⟨rfl, rfl, rfl, by decide +kernel, rfl, by decide +kernel, by decide +kernel⟩
theorem ok_exchange (h : HD P w K mg base) : Cal P w K mg base "exchange" 6 1 ["faces"] T_exchange := by
  obtain ⟨f, fd, F, m⟩ := h.f_exchange
  have C_are_faces := ok_are_faces h
  have C_passed_on := ok_passed_on h
  exact ⟨f, fd, fnP F sc_exchange rfl (fun cdv A outer s H E hr => (pxs_cons (pxs_if (pxt_not (pxt_val (px_call C_are_faces hr (by decide) rfl (pxa_cons (pr_var 0) (pxa_cons (pr_of px_int) pxa_nil))))) (pxs_one pxs_never) pxs_nil) (pxs_one (pxs_ret (px_call C_passed_on hr (by decide) rfl (pxa_cons (pr_var 0) pxa_nil)))))) pure_exchange, m, F.kp, F.bindsN fun _ _ _ _ _ _ us hl => match us, hl with | [_], _ => rfl⟩
abbrev N_check_split_faces : List Str := ["faces"]
theorem sc_check_split_faces : FnScope N_check_split_faces ["faces"] (defScope s_check_split_faces) := ⟨rfl, rfl, rfl, by decide +kernel, rfl, by decide +kernel, by decide +kernel⟩
theorem ok_check_split_faces (h : HD P w K mg base) : Cal P w K mg base "check_split_faces" 6 1 ["faces"] T_check_split_faces := by
  obtain ⟨f, fd, F, m⟩ := h.f_check_split_faces
  have C_are_faces := ok_are_faces h
  have C_met_faces := ok_met_faces h
  have C_no_cells := ok_no_cells h
  exact ⟨f, fd, fnP F sc_check_split_faces rfl (fun cdv A outer s H E hr => (pxs_one (pxs_if (pxt_w (pxw_or (pxt_not (pxt_val (px_call C_are_faces hr (by decide) rfl (pxa_cons (pr_var 0) (pxa_cons (pr_of px_int) pxa_nil))))) (pxw_or1 (pxt_not (pxt_val (px_call C_no_cells hr (by decide) rfl (pxa_cons (pr_of (px_call C_met_faces hr (by decide) rfl (pxa_cons (pr_of (px_ix (u65 hr) (pr_of (px_ix (u65 hr) (pr_var 0) px_int)) px_int)) (pxa_cons (pr_var 0) pxa_nil)))) pxa_nil))))))) (pxs_one pxs_never) pxs_nil))) pure_check_split_faces, m, F.kp, F.bindsN fun _ _ _ _ _ _ us hl => match us, hl with | [_], _ => rfl⟩
abbrev N_judge_split : List Str := ["value", "faces", "waiting", "here", "facts", "told", "place"]
theorem sc_judge_split : FnScope N_judge_split ["value", "faces"] (defScope s_judge_split) := ⟨rfl, rfl, rfl, by decide +kernel, rfl, by decide +kernel, by decide +kernel⟩
theorem ok_judge_split (h : HD P w K mg base) : Cal P w K mg base "judge_split" 6 2 ["value", "faces"] T_judge_split := by
  obtain ⟨f, fd, F, m⟩ := h.f_judge_split
  have C_are_faces := ok_are_faces h
  have C_is_pair := ok_is_pair h
  have C_is_split_end := ok_is_split_end h
  have C_split_answers := ok_split_answers h
  exact ⟨f, fd, fnP F sc_judge_split rfl (fun cdv A outer s H E hr => (pxs_cons (pxs_if (pxt_not (pxt_val (px_call C_are_faces hr (by decide) rfl (pxa_cons (pr_var 1) (pxa_cons (pr_of px_int) pxa_nil))))) (pxs_one pxs_never) pxs_nil) (pxs_cons (pxs_setF (i := 2) sc_judge_split.nd rfl (Or.inl rfl) (pf_lst (pxa_cons (pr_of (px_tup (pxa_cons (pr_var 0) (pxa_cons (pr_of (px_tup pxa_nil)) pxa_nil)))) pxa_nil))) (pxs_cons (pxs_while PassesOwn.never (pxt_tru (pr_var 2)) (pxs_cons (pxs_pop 2 (pxg_tup (is := [3, 4]) rfl (pgs_cons (pg_name (i := 3) sc_judge_split.nd rfl (Or.inl rfl)) (pgs_cons (pg_name (i := 4) sc_judge_split.nd rfl (Or.inl rfl)) pgs_nil)))) (pxs_one (pxs_if (pxt_w (pxw_and (pxt_val (px_call C_is_pair hr (by decide) rfl (pxa_cons (pr_var 3) pxa_nil))) (pxw_and1 (pxt_cmp (op_eqD' (u64 hr)) (px_ix (u65 hr) (pr_var 3) px_int) px_str)))) (pxs_one (pxs_if (pxt_not (pxt_val (px_call C_is_split_end hr (by decide) rfl (pxa_cons (pr_var 3) (pxa_cons (pr_var 1) (pxa_cons (pr_var 4) pxa_nil)))))) (pxs_one (pxs_ret px_bl)) pxs_nil)) (pxs_cons (pxs_set (i := 5) sc_judge_split.nd rfl (Or.inl rfl) (px_call C_split_answers hr (by decide) rfl (pxa_cons (pr_var 3) (pxa_cons (pr_of (px_ix (u65 hr) (pr_of (px_ix (u65 hr) (pr_var 1) px_int)) px_int)) pxa_nil)))) (pxs_cons (pxs_if (pxt_cmp op_isND (px_var 5) px_non) (pxs_one (pxs_ret px_bl)) pxs_nil) (pxs_one (pxs_for PassesOwn.never rfl (pxi_r1 rfl h.b_range px_int) (pxg_name (i := 6) sc_judge_split.nd rfl (Or.inl rfl)) (pxs_one (pxs_app 2 (px_tup (pxa_cons (pr_of (px_ix (u65 hr) (pr_of (px_ix (u65 hr) (pr_var 3) px_int)) (px_var 6))) (pxa_cons (pr_of (px_bin op_addD (px_var 4) (px_tup (pxa_cons (pr_of (px_ix (u65 hr) (pr_var 5) (px_var 6))) pxa_nil)))) pxa_nil))))))))))))) (pxs_one (pxs_ret px_bl)))))) pure_judge_split, m, F.kp, F.bindsN fun _ _ _ _ _ _ us hl => match us, hl with | [_, _], _ => rfl⟩
end K96
end

section
set_option Elab.async false
set_option linter.all false
set_option maxRecDepth 100000
set_option maxHeartbeats 2000000
namespace K96
open PySem PySem.Spec PyProof.Rows L2 PL LamX
section
variable {K : PySem.W.Frag} {w : World} {G F F' H H' : Hp} {ρ : PEnv} {σ : L2.St}
theorem extN_sqT {a : Addr} {xs : List V} (e : ExtN F F') (h : SqT K F a xs) : SqT K F' a xs := by
  rcases h with (h | ⟨o, h⟩) | h
  · exact .inl (.inl (e _ _ h fun _ z => by cases z))
  · exact .inl (.inr ⟨o, e _ _ h fun _ z => by cases z⟩)
  · exact .inr h
mutual
theorem Rp.extN (e : ExtN F F') : ∀ {v : V} {d : D}, Rp K w F v d → Rp K w F' v d
  | _, _, .non => .non
  | _, _, .bl b => .bl b
  | _, _, .int i => .int i
  | _, _, .str x => .str x
  | _, _, .tup h1 h2 => .tup (extN_sqT e h1) (RpA.extN e h2)
  | _, _, .lst h1 h2 => .lst (e _ _ h1 fun _ z => by cases z) (RpA.extN e h2)
  | _, _, .dicK h1 h2 h3 => .dicK (e _ _ h1 fun _ z => by cases z) h2 (RpA.extN e h3)
  | _, _, .dicN h1 h2 h3 h4 => .dicN (e _ _ h1 fun _ z => by unfold DicO at z; cases z) (RpA.extN e h2) (RpA.extN e h3) h4
  | _, _, .pot h1 h2 => .pot (e _ _ h1 fun _ z => by unfold PotO at z; cases z) (e _ _ h2 fun _ z => by cases z)
theorem RpA.extN (e : ExtN F F') : ∀ {vs : List V} {ds : List D}, RpA K w F vs ds → RpA K w F' vs ds
  | _, _, .nil => .nil
  | _, _, .cons h1 h2 => .cons (Rp.extN e h1) (RpA.extN e h2)
end
/-- a heap without its tables -/
def noT (H : Hp) : Hp := fun a => match H a with
  | some (.tbl _) => none
  | o => o
theorem noT_some {H : Hp} {a : Addr} {o : HO} (h : noT H a = some o) : H a = some o ∧ ∀ ps, o ≠ .tbl ps := by
  unfold noT at h
  split at h
  · cases h
  · next hh => exact ⟨h, fun ps z => hh ps (by rw [h, z])⟩
theorem noT_of {H : Hp} {a : Addr} {o : HO} (h : H a = some o) (n : ∀ ps, o ≠ .tbl ps) : noT H a = some o := by
  unfold noT
  split
  · next ps hh => rw [hh] at h; cases h; exact (n ps rfl).elim
  · exact h
theorem noT_none {H : Hp} {a : Addr} (h : H a = none) : noT H a = none := by
  unfold noT
  split
  · rfl
  · exact h
theorem noT_ext {H : Hp} : ExtN H (noT H) := fun _ _ h n => noT_of h n
theorem noT_same {H H1 : Hp} (e : ExtN H H1) : Same (noT H) H1 := fun a o h => e a o (noT_some h).1 (noT_some h).2
theorem noT_sub {F H H1 : Hp} (f : Same F H) (e : ExtN H H1) : Same (noT F) H1 := fun a o h => e a o (f a o (noT_some h).1) (noT_some h).2
/-- a def whose promise lets tables grow -/
def spT (K : PySem.W.Frag) (w : World) (Tb : List (Addr × Str)) (n : Nat) (T : FT) : Sp := fun vs H Q _ => ∃ F ds k, Same F H ∧ RpA K w F vs ds ∧ ds.length = n ∧ T ds k ∧ Tabs Tb H ∧ ∀ x v F' H', k x → ExtN F F' → ExtN H H' → Same F' H' → Rp K w F' v x → Tabs Tb H' → Q v H'
/-- one statement of plain data, then more -/
theorem stage {t : TXS} {U : TS} {Z : Ends} {C : PEnv → Prop} (R : Rep K w G F ρ σ H) (ht : t { nx := C, rt := fun _ => False } ρ) (h : ∀ F2 ρ2 σ2 H2, Gr G F F2 → C ρ2 → Rep K w G F2 ρ2 σ2 H2 → U Z σ2 H2) : tSeq (liftS K w t) U Z σ H :=
  ⟨G, F, ρ, _, R, ht, fun F2 ρ2 σ2 H2 a g R2 => h F2 ρ2 σ2 H2 g a R2, fun _ _ _ _ a _ _ => a.elim, fun _ _ _ _ a _ _ => a.elim, fun _ _ _ _ a _ _ _ _ => a.elim⟩
/-- the tables grew -/
theorem Rep.tbl (R : Rep K w G F ρ σ H) (g : Same G H') (e : ExtN H H') : Rep K w G (noT F) ρ σ H' :=
  ⟨g, noT_sub R.fh e, R.len, fun i pv q => by
    obtain ⟨v, h1, h2⟩ := R.at_ i pv q
    refine ⟨v, h1, ?_⟩
    cases pv with
    | d x => exact Rp.extN noT_ext h2
    | own xs =>
      obtain ⟨p, vs, e1, g1, f1, h3, r⟩ := h2
      exact ⟨p, vs, e1, g1, noT_none f1, e _ _ h3 (fun _ z => by cases z), RpA.extN noT_ext r⟩
    | odic ks vs =>
      obtain ⟨p, xs, e1, g1, f1, h3, r1, r2, k⟩ := h2
      exact ⟨p, xs, e1, g1, noT_none f1, e _ _ h3 (fun _ z => by unfold DicO at z; cases z), RpA.extN noT_ext r1, RpA.extN noT_ext r2, k⟩, R.sep⟩
/-- the slots at entry, the frame without tables -/
theorem start_noT {F H : Hp} (fh : Same F H) {N : List Str} {vs : List V} {ds : List D} (r : RpA K w F vs ds) : Rep K w (noT H) (noT F) (startP N.length ds) (L2.start N vs) H := by
  have R := start_rep (K := K) (w := w) (Same.refl H) (N := N) (RpA.same fh r)
  have R2 := start_rep (K := K) (w := w) (noT_sub fh (.refl H)) (N := N) (RpA.extN noT_ext r)
  refine ⟨noT_same (.refl H), noT_sub fh (.refl H), R2.len, fun i pv q => ?_, R2.sep⟩
  obtain ⟨v, h1, h2⟩ := R2.at_ i pv q
  refine ⟨v, h1, ?_⟩
  cases pv with
  | d x => exact h2
  | own xs =>
    obtain ⟨p, us, _, g1, _, h3, _⟩ := h2
    rw [g1] at h3; cases h3
  | odic xs ys =>
    obtain ⟨p, us, _, g1, _, h3, _⟩ := h2
    rw [g1] at h3; cases h3
theorem tabs_same {Tb : List (Addr × Str)} {H H' : Hp} (t : Tabs Tb H) (e : Same H H') : Tabs Tb H' := fun p hp => (t p hp).ext e
end
end K96
end

section
set_option Elab.async false
set_option linter.all false
set_option maxRecDepth 100000
set_option maxHeartbeats 2000000
namespace K96
open PySem PySem.Spec PyProof.Rows L2 PL
abbrev lB : TXS := (sIf (tB1 (xBin neD (xIx (rVar 3) (xVar 5)) (xNeg (xC (.int 1))))) (sPut 4 (xVar 5) (xTup (aCons (rOf (xC (.int 1))) (aCons (rOf (xTup (aCons (rOf (xC (.str ("end" : Str)))) (aCons (rOf (xIx (rVar 3) (xVar 5))) aNil)))) aNil)))) (sPut 4 (xVar 5) (xFn 4 T_best_parting (aCons (rVar 5) (aCons (rVar 1) (aCons (rVar 2) (aCons (rVar 4) aNil)))))))
/-- what the best tree of a state is -/
structure BtOk (fs : List Face) (ns : List Str) (mk : Int) (st : List Stt) (bt : Stt → Int × Tree) : Prop where
  fin : ∀ s ∈ st, ender fs s ≠ -1 → ∃ p : Nat, ender fs s = p ∧ bt s = (1, .fin p)
  spl : ∀ s ∈ st, ender fs s = -1 → bestP s ns mk bt = some (bt s)
  kid : ∀ s ∈ st, ender fs s = -1 → ∀ p ∈ parts s ns mk, (p.2.1 ∈ st ∧ wid p.2.1 mk < wid s mk) ∧ (p.2.2 ∈ st ∧ wid p.2.2 mk < wid s mk)
  v : ∀ s ∈ st, StV s ns mk
  nl : ∀ s ∈ st, D.nl 400 (btD (bt s)) = true
abbrev bEnv (fs : List Face) (ns : List Str) (mk : Int) (st done : List Stt) (bt : Stt → Int × Tree) (x : Option PV) : PEnv := [some (.d (facesD fs)), some (.d (.tup (ns.map D.str))), some (.d (.int mk)), some (.d (.dic (st.map stD) (st.map fun s => .int (ender fs s)))), some (.odic (done.map stD) (done.map fun s => btD (bt s))), x]
theorem best_body {fs : List Face} {ns : List Str} {mk : Int} {st done : List Stt} {bt : Stt → Int × Tree} (ok : BtOk fs ns mk st bt) {s : Stt} (hs : s ∈ st) (hd : s ∉ done) (hl : done.length ≤ 5000)
    (hk : ender fs s = -1 → ∀ p ∈ parts s ns mk, p.2.1 ∈ done ∧ p.2.2 ∈ done) {Z : EndsP} (h : Z.nx (bEnv fs ns mk st (done ++ [s]) bt (some (.d (stD s))))) : lB Z (bEnv fs ns mk st done bt (some (.d (stD s)))) := by
  have ko := kok_st s
  have sm2 : Sm 2 := by unfold Sm; omega
  have smF : Sm ((done.map stD).length + 1) := by rw [List.length_map]; unfold Sm; omega
  have nm : stD s ∉ done.map stD := by rw [st_mem]; exact hd
  have it : isTupD (stD s) = true := rfl
  have lk : dLook (st.map stD) (st.map fun s => D.int (ender fs s)) (stD s) = some (.int (ender fs s)) := dLook_map hs
  have ks : done.map stD ++ [stD s] = (done ++ [s]).map stD := by simp
  have vs : (done.map fun s => btD (bt s)) ++ [btD (bt s)] = (done ++ [s]).map fun s => btD (bt s) := by simp
  simp only [s_sIf, s_tB1, s_xBin, s_xIx, s_rVar, s_xVar, List.getElem?_cons_zero, List.getElem?_cons_succ, s_xP, s_xD, PV.dat_d, s_ixDic, ko, lk, true_and, s_xNeg, s_xC, s_negI, s_neD, s_clI, D.int.injEq, s_isB]
  by_cases c : ender fs s = -1
  · simp only [c, decide_true, Bool.not_true, Bool.false_eq_true, if_false, s_sPut, s_xVar, List.getElem?_cons_zero, List.getElem?_cons_succ, s_xD, PV.dat_d, s_xFn, s_aCons, s_aNil, s_rVar, s_xP, List.length_cons, List.length_nil, List.map_cons, List.map_nil, true_and, PV.dat_odic]
    refine ⟨s, ns, mk, done.map stD, done.map (fun s => btD (bt s)), bt, rfl, ok.v s hs, fun p hp => ⟨dLook_map (hk c p hp).1, dLook_map (hk c p hp).2⟩, ?_⟩
    rw [ok.spl s hs c]
    refine ⟨fun _ => ok.nl s hs, ?_⟩
    simp only [s_odicOf]
    refine ⟨ko, it, nm, smF, ?_⟩
    show Z.nx (List.set _ 4 (some (PV.odic (done.map stD ++ [stD s]) ((done.map fun s => btD (bt s)) ++ [btD (bt s)]))))
    rw [ks, vs]
    exact h
  · obtain ⟨p, e1, e2⟩ := ok.fin s hs c
    simp only [c, decide_false, Bool.not_false, if_true, s_sPut, s_xVar, List.getElem?_cons_zero, List.getElem?_cons_succ, s_xD, PV.dat_d, s_xTup, s_aCons, s_aNil, s_rOf, s_xC, s_xIx, s_rVar, s_xP, s_ixDic, ko, lk, true_and, s_withD, s_allD0, s_allD1, sm2]
    refine ⟨sm2, sm2, ?_⟩
    simp only [s_odicOf]
    refine ⟨it, nm, smF, ?_⟩
    have eb : D.tup [D.int 1, D.tup [D.str "end", D.int (ender fs s)]] = btD (bt s) := by rw [e1, e2]; rfl
    rw [eb, ks, vs]
    exact h
/-- what is narrower stands before -/
theorem kids_done {mk : Int} {st os done rest : List Stt} {s t : Stt} (perm : os.Perm st) (pw : os.Pairwise fun a b => wid a mk ≤ wid b mk) (e : os = done ++ s :: rest) (ht : t ∈ st) (hw : wid t mk < wid s mk) : t ∈ done := by
  have h : t ∈ os := perm.mem_iff.mpr ht
  rw [e] at h pw
  rcases List.mem_append.mp h with h | h
  · exact h
  · exfalso
    have p2 := (List.pairwise_append.mp pw).2.1
    rcases List.mem_cons.mp h with h | h
    · rw [h] at hw; omega
    · have := (List.pairwise_cons.mp p2).1 t h
      omega
end K96
end

section
set_option Elab.async false
set_option linter.all false
set_option maxRecDepth 100000
set_option maxHeartbeats 2000000
namespace K96
open PySem PySem.Spec PyProof.Rows L2 PL LamX
section
variable {K : PySem.W.Frag} {w : World} {G F F' H H' : Hp} {ρ : PEnv} {σ : L2.St}
/-- another frame that must stay -/
theorem Rep.setG (R : Rep K w G F ρ σ H) {G2 : Hp} (g : Same G2 H) (own : ∀ (i : Nat) (pv : PV) (q : Addr), ρ[i]? = some (some pv) → pv.owns = true → σ[i]? = some (some (.ref q)) → G2 q = none) : Rep K w G2 F ρ σ H := by
  refine ⟨g, R.fh, R.len, fun i pv e => ?_, R.sep⟩
  obtain ⟨v, h1, h2⟩ := R.at_ i pv e
  refine ⟨v, h1, ?_⟩
  cases pv with
  | d x => exact h2
  | own xs =>
    obtain ⟨p, vs, rfl, _, r⟩ := h2
    exact ⟨p, vs, rfl, own i _ p e rfl h1, r⟩
  | odic ks vs =>
    obtain ⟨p, xs, rfl, _, r⟩ := h2
    exact ⟨p, xs, rfl, own i _ p e rfl h1, r⟩
theorem codeO_ne {c : Addr} {n : Str} {xs : List (NestedKey × Addr × V)} : CodeO c n ≠ DicO w c xs := fun e => by
  unfold CodeO DicO at e
  injection e with e
  have hg : ((⟨Array.replicate c default, {}⟩ : Heap).push { cls := .none, data := .fields #[.none, .str n 0] }).get? c = some { cls := .none, data := .fields #[.none, .str n 0] } := by
    have := Heap.get?_push_size (⟨Array.replicate c default, {}⟩ : Heap) (o := { cls := .none, data := .fields #[.none, .str n 0] }) rfl
    simpa using this
  have := congrFun e ((⟨Array.replicate c default, {}⟩ : Heap).push { cls := .none, data := .fields #[.none, .str n 0] })
  have h1 := this.mp ⟨_, _, 0, hg, rfl, rfl⟩
  obtain ⟨o, es, ep, a, _, b, _⟩ := h1
  rw [hg] at a
  cases a
  cases b
theorem perm_map {α β : Type} {f : α → β} : ∀ {l m : List β}, l.Perm m → ∀ m' : List α, m = m'.map f → ∃ l' : List α, l'.Perm m' ∧ l = l'.map f := by
  intro l m h
  induction h with
  | nil => intro m' e; cases m' with | nil => exact ⟨[], .refl _, rfl⟩ | cons _ _ => cases e
  | cons x _ ih =>
    intro m' e
    cases m' with
    | nil => cases e
    | cons y m' =>
      rw [List.map_cons] at e
      injection e with e1 e2
      obtain ⟨l', p, q⟩ := ih m' e2
      exact ⟨y :: l', p.cons y, by rw [List.map_cons, e1, q]⟩
  | swap x y l =>
    intro m' e
    cases m' with
    | nil => cases e
    | cons a m' =>
      cases m' with
      | nil => cases e
      | cons b m' =>
        rw [List.map_cons, List.map_cons] at e
        injection e with e1 e2
        injection e2 with e2 e3
        exact ⟨b :: a :: m', .swap a b m', by rw [List.map_cons, List.map_cons, e1, e2, e3]⟩
  | trans _ _ ih1 ih2 =>
    intro m' e
    obtain ⟨l2, p2, q2⟩ := ih2 m' e
    obtain ⟨l1, p1, q1⟩ := ih1 l2 q2
    exact ⟨l1, p1.trans p2, q1⟩
theorem zip_rp {F : Hp} : ∀ {as : List Addr} {ss : List Stt}, RpA K w F (as.map fun a => V.ref a) (ss.map stD) → as.length = ss.length ∧ ∀ p ∈ as.zip ss, Rp K w F (.ref p.1) (stD p.2)
  | [], [], _ => ⟨rfl, fun p hp => by cases hp⟩
  | [], _ :: _, h => by cases h
  | _ :: _, [], h => by cases h
  | a :: as, s :: ss, h => by
    cases h with
    | cons h1 h2 =>
      obtain ⟨e, q⟩ := zip_rp h2
      refine ⟨by rw [List.length_cons, List.length_cons, e], fun p hp => ?_⟩
      rw [List.zip_cons_cons] at hp
      rcases List.mem_cons.mp hp with z | z
      · rw [z]; exact h1
      · exact q p z
end
abbrev lamN : Str := (Str.ofString "best_trees" ++ Str.ofString ".<locals>.") ++ Str.ofString "<lambda>"
def T_best_trees : FT := fun ds k => ∃ (fs : List Face) (ns : List Str) (N : Nat) (st : List Stt) (Good : Stt → Prop) (bt : Stt → Int × Tree), ds = [facesD fs] ∧ FsOk fs ns ∧ Closed ns (gmark fs) Good ∧ Good (arrs ns.length, 1, 0) ∧
  allGo fs ns (gmark fs) N [(arrs ns.length, 1, 0)] [] = some st ∧ BtOk fs ns (gmark fs) st bt ∧ st.Nodup ∧ st.length ≤ 2000 ∧ ∀ os : List Stt, os.Perm st → k (.dic (os.map stD) (os.map fun s => btD (bt s)))
abbrev b1 : TXS := (sSet 1 (xIx (rOf (xIx (rVar 0) (xC (.int 0)))) (xC (.int 0))))
abbrev b2 : TXS := (sSet 2 (xFn 1 T_greatest_mark (aCons (rVar 0) aNil)))
abbrev b3 : TXS := (sSet 3 (xFn 3 T_all_states (aCons (rVar 1) (aCons (rVar 0) (aCons (rVar 2) aNil)))))
abbrev b4 : TXS := (sNewD 4)
theorem read_best {K : PySem.W.Frag} {w : World} {Pt : Addr} {vs : List V} {H : Hp} {Q : VK} {E : XK} (hsp : spT K w [(Pt, lamN)] 1 T_best_trees vs H Q E) :
    tSeq (liftS K w b1) (tSeq (liftS K w b2) (tSeq (liftS K w b3) (tSeq (liftS K w b4) (tSeq (tFor (iList K (tSortL w [(Pt, lamN)] 3 2 (tCall (spP K w 2 T_width) [] C8.E0 (tCons (tVar 0) (tCons (tVar 1) tNil))))) (gName 5) (liftS K w lB)) (tRet (tVar 4)))))) { nx := fun _ H' => Q .non H', rt := Q } (L2.start ["faces", "names", "mark", "found", "best", "state"] vs) H := by
  obtain ⟨F0, ds, k, same, r, hl, ⟨fs, ns, N, st, Good, bt, rfl, h, cl, g0, e, ok, nd, few, hk⟩, tabs, hp⟩ := hsp
  obtain ⟨f, rest, ef, en⟩ := h.at0
  have a0 : atI (fs.map faceD) 0 = some (faceD f) := by rw [ef, List.map_cons, atI_zero]
  have n3 := h.n3
  have R0 : Rep K w H F0 [some (.d (facesD fs)), none, none, none, none, none] (L2.start ["faces", "names", "mark", "found", "best", "state"] vs) H := start_rep (N := ["faces", "names", "mark", "found", "best", "state"]) same r
  -- the first four statements
  refine stage (C := fun ρ => ρ = [some (.d (facesD fs)), some (.d (.tup (ns.map D.str))), none, none, none, none]) R0 (by simp [a0, en]) fun F1 ρ1 σ1 H1 g1 e1 R1 => ?_
  subst e1
  refine stage (C := fun ρ => ρ = [some (.d (facesD fs)), some (.d (.tup (ns.map D.str))), some (.d (.int (gmark fs))), none, none, none]) R1 (by simp; exact ⟨fs, rfl, rfl⟩) fun F2 ρ2 σ2 H2 g2 e2 R2 => ?_
  subst e2
  refine stage (C := fun ρ => ρ = [some (.d (facesD fs)), some (.d (.tup (ns.map D.str))), some (.d (.int (gmark fs))), some (.d (.dic (st.map stD) (st.map fun s => .int (ender fs s)))), none, none]) R2 (by
    simp only [s_sSet, s_xFn, s_aCons, s_aNil, s_rVar, List.getElem?_cons_zero, List.getElem?_cons_succ, s_xP, List.length_cons, List.length_nil, List.map_cons, List.map_nil, PV.dat_d, true_and]
    exact ⟨ns, fs, gmark fs, N, st, Good, rfl, cl, g0, by have := h.few; omega, fun f hf => by rw [(h.ok f hf).2]; omega, e, fun h => by simp at h, rfl⟩) fun F3 ρ3 σ3 H3 g3 e3 R3 => ?_
  subst e3
  refine stage (C := fun ρ => ρ = [some (.d (facesD fs)), some (.d (.tup (ns.map D.str))), some (.d (.int (gmark fs))), some (.d (.dic (st.map stD) (st.map fun s => .int (ender fs s)))), some (.odic [] []), none]) R3 rfl fun F4 ρ4 σ4 H4 g4 e4 R4 => ?_
  subst e4
  -- what stands there
  obtain ⟨v3, s3, r3⟩ := R4.at_ 3 _ rfl
  obtain ⟨v2, s2, r2⟩ := R4.at_ 2 _ rfl
  obtain ⟨v4, s4, q4, xs4, ev4, hg4, hf4, hd4, _, _, _⟩ := R4.at_ 4 _ rfl
  subst ev4
  have r3 : Rp K w F4 v3 (.dic (st.map stD) (st.map fun s => .int (ender fs s))) := r3
  have r2 : Rp K w F4 v2 (.int (gmark fs)) := r2
  cases r2
  cases r3 with
  | @dicN d xs _ _ hd hks hvs hko =>
  have hks' : RpA K w F4 ((xs.map fun q => q.2.1).map fun a => V.ref a) (st.map stD) := by rw [List.map_map]; exact hks
  obtain ⟨zl, zr⟩ := zip_rp hks'
  have xl : xs.length = st.length := by rw [← zl, List.length_map]
  refine ⟨d, xs, st.map (fun s => wid s (gmark fs)), .int (gmark fs), s3, R4.fh _ _ hd, by rw [List.length_map, xl], by rw [xl]; exact Nat.le_trans few (by decide), s2, tabs_same tabs R4.gh, fun i q kk hq hkk H1' eN => ?_, ?_⟩
  · -- the lambda
    rw [List.getElem?_map] at hkk
    cases es : st[i]? with
    | none => rw [es] at hkk; cases hkk
    | some s =>
    rw [es] at hkk
    cases hkk
    have rs : Rp K w F4 (.ref q.2.1) (stD s) := by
      obtain ⟨v, hv1, hv2⟩ := RpA.get hks (i := i) (d := stD s) (by rw [List.getElem?_map, es]; rfl)
      rw [List.getElem?_map, hq] at hv1
      cases hv1
      exact hv2
    refine ⟨_, rfl, _, rfl, ?_⟩
    exact ⟨noT F4, [stD s, .int (gmark fs)], fun x => x = .int (wid s (gmark fs)), noT_sub R4.fh eN, .cons (Rp.extN noT_ext rs) (.cons (.int _) .nil), rfl, ⟨s, gmark fs, rfl, rfl⟩, fun x v F' H' hx n rv => by
      subst hx
      cases rv
      exact ⟨rfl, n.hh⟩⟩
  · -- the loop
    intro p Ha Hb ps eN tabs2 sm np perm pw
    have ez : (xs.map fun q => q.2.1).zip (st.map fun s => wid s (gmark fs)) = ((xs.map fun q => q.2.1).zip st).map fun x => (x.1, wid x.2 (gmark fs)) := by
      rw [List.zip_map_right]
      rfl
    rw [ez] at perm
    obtain ⟨qs, pq, eq⟩ := perm_map perm _ rfl
    have osp : (qs.map fun x => x.2).Perm st := by
      have := pq.map fun x => x.2
      rwa [show ((xs.map fun q => q.2.1).zip st).map (fun x => x.2) = st from List.map_snd_zip (by rw [zl]; exact Nat.le_refl _)] at this
    have opw : (qs.map fun x => x.2).Pairwise fun a b => wid a (gmark fs) ≤ wid b (gmark fs) := by
      rw [eq] at pw
      rw [List.pairwise_map] at pw ⊢
      exact pw
    have ond := osp.nodup_iff.mpr nd
    have ol : (qs.map fun x => x.2).length = st.length := osp.length_eq
    rw [List.length_map] at ol
    have orp : ∀ x ∈ qs, Rp K w F4 (.ref x.1) (stD x.2) := fun x hx => zr x (pq.mem_iff.mp hx)
    have eqp : (ps.map fun x => V.ref x.1) = qs.map fun x => V.ref x.1 := by rw [eq, List.map_map]; rfl
    -- the heap as it stands when the loop begins
    have hq4a : Ha q4 = some (DicO w q4 xs4) := eN _ _ hd4 fun _ z => by unfold DicO at z; cases z
    have hq4b : Hb q4 = some (DicO w q4 xs4) := sm _ _ hq4a
    have pq4 : q4 ≠ p := fun z => by rw [z, np] at hq4b; cases hq4b
    have e4c : ExtN H4 (upd Hb p (.lst (ps.map fun x => V.ref x.1))) := (eN.trans (.of fun b o z => sm b o z)).trans (.of fun b o z => same_new np b o z)
    obtain ⟨Hc, eHc⟩ : ∃ Hc, Hc = upd Hb p (.lst (ps.map fun x => V.ref x.1)) := ⟨_, rfl⟩
    rw [← eHc] at e4c ⊢
    have hpc : Hc p = some (.lst (qs.map fun x => V.ref x.1)) := by rw [eHc, upd_same, eqp]
    have abc : Same Ha Hc := fun b o z => by rw [eHc]; exact same_new np b o (sm b o z)
    -- all but the dict of our own must stay
    obtain ⟨G2, eG2⟩ : ∃ G2 : Hp, G2 = fun a => if a = q4 then none else Hc a := ⟨_, rfl⟩
    have G2q : G2 q4 = none := by rw [eG2]; simp
    have G2n : ∀ a, a ≠ q4 → G2 a = Hc a := fun a z => by rw [eG2]; simp [z]
    have G2s : Same G2 Hc := fun a o z => by
      by_cases c : a = q4
      · rw [c, G2q] at z; cases z
      · rw [G2n a c] at z; exact z
    have own4 : ∀ (i : Nat) (pv : PV) (q : Addr), ([some (.d (facesD fs)), some (.d (.tup (ns.map D.str))), some (.d (.int (gmark fs))), some (.d (.dic (st.map stD) (st.map fun s => .int (ender fs s)))), some (.odic [] []), none] : PEnv)[i]? = some (some pv) → pv.owns = true → σ4[i]? = some (some (.ref q)) → G2 q = none := fun i pv q ei eo eq => by
      match i, ei with
      | 0, ei => cases ei; cases eo
      | 1, ei => cases ei; cases eo
      | 2, ei => cases ei; cases eo
      | 3, ei => cases ei; cases eo
      | 4, ei => rw [s4] at eq; cases eq; exact G2q
      | 5, ei => cases ei
      | i + 6, ei => simp at ei
    have Rn : Rep K w (noT H) F4 _ σ4 H4 := Rep.setG R4 (fun a o z => R4.gh a o (noT_some z).1) (fun i pv q ei eo eq => by
      match i, ei with
      | 0, ei => cases ei; cases eo
      | 1, ei => cases ei; cases eo
      | 2, ei => cases ei; cases eo
      | 3, ei => cases ei; cases eo
      | 4, ei => rw [s4] at eq; cases eq; exact noT_none hg4
      | 5, ei => cases ei
      | i + 6, ei => simp at ei)
    have Rc : Rep K w (noT H) (noT F4) _ σ4 Hc := Rep.tbl Rn (fun a o z => e4c a o (R4.gh a o (noT_some z).1) (noT_some z).2) e4c
    have RL : Rep K w G2 (noT F4) (bEnv fs ns (gmark fs) st [] bt none) σ4 Hc := Rep.setG Rc G2s own4
    have tabs3 : Tabs [(Pt, lamN)] G2 := fun pt hpt => by
      obtain ⟨tps, t1, t2, t3⟩ := tabs2 pt hpt
      have nq : ∀ a o, Ha a = some o → o ≠ DicO w q4 xs4 → G2 a = some o := fun a o z ne => by
        rw [G2n a (fun c => by rw [c, hq4a] at z; exact ne (Option.some.inj z).symm)]
        exact abc a o z
      refine ⟨tps, nq _ _ t1 (fun z => by unfold DicO at z; cases z), t2, fun pos cv hc => ?_⟩
      obtain ⟨c, c1, c2⟩ := t3 pos cv hc
      refine ⟨c, c1, ?_⟩
      by_cases z : c = q4
      · rw [z, hq4a] at c2
        exact absurd (Option.some.inj c2).symm codeO_ne
      · rw [G2n c z]; exact abc _ _ c2
    refine ⟨p, rfl, ⟨_, SqL.of hpc⟩, ?_⟩
    refine ⟨fun i m σ H' => m = qs.length - i ∧ i ≤ qs.length ∧ ∃ F x, Gr G2 (noT F4) F ∧ Rep K w G2 F (bEnv fs ns (gmark fs) st ((qs.map fun x => x.2).take i) bt x) σ H', ⟨qs.length, rfl, Nat.zero_le _, noT F4, none, .refl, RL⟩, ?_⟩
    rintro i m σ5 H5 ⟨rfl, hi, F5, x5, g5, R5⟩
    have pn4 : p ≠ q4 := fun z => pq4 z.symm
    have hp5 : H5 p = some (.lst (qs.map fun x => V.ref x.1)) := R5.gh _ _ (by rw [G2n p pn4]; exact hpc)
    by_cases hlt : i < qs.length
    · refine .inr ⟨⟨_, .ref qs[i].1, SqL.of hp5, by rw [List.getElem?_map, List.getElem?_eq_getElem hlt]; rfl⟩, fun σ' H' => ∃ F x, Gr G2 (noT F4) F ∧ Rep K w G2 F (bEnv fs ns (gmark fs) st ((qs.map fun x => x.2).take (i + 1)) bt x) σ' H', fun σ' H' q => ⟨_, by omega, rfl, hlt, q⟩, ?_⟩
      rintro y H6 ⟨rfl, hy⟩
      have ey := hy _ (SqL.of hp5)
      rw [List.getElem?_map, List.getElem?_eq_getElem hlt] at ey
      cases ey
      have rq : Rp K w F5 (.ref qs[i].1) (stD qs[i].2) := Rp.same g5.ff (Rp.extN noT_ext (orp _ (List.getElem_mem hlt)))
      have R6 : Rep K w G2 F5 (bEnv fs ns (gmark fs) st ((qs.map fun x => x.2).take i) bt (some (.d (stD qs[i].2)))) (σ5.set 5 (some (.ref qs[i].1))) _ := R5.setD 5 rq
      have split : (qs.map fun x => x.2) = (qs.map fun x => x.2).take i ++ qs[i].2 :: (qs.map fun x => x.2).drop (i + 1) := by
        have e1 : (qs.map fun x => x.2).drop i = (qs.map fun x => x.2)[i]'(by rw [List.length_map]; exact hlt) :: (qs.map fun x => x.2).drop (i + 1) := List.drop_eq_getElem_cons _
        rw [List.getElem_map] at e1
        rw [← e1, List.take_append_drop]
      have take1 : (qs.map fun x => x.2).take (i + 1) = (qs.map fun x => x.2).take i ++ [qs[i].2] := by
        rw [List.take_add_one, List.getElem?_map, List.getElem?_eq_getElem hlt]; rfl
      refine ⟨G2, F5, _, { nx := fun ρ => ρ = bEnv fs ns (gmark fs) st ((qs.map fun x => x.2).take i ++ [qs[i].2]) bt (some (.d (stD qs[i].2))), rt := fun _ => False }, R6, best_body ok ?_ ?_ ?_ ?_ rfl, ?_⟩
      · exact osp.mem_iff.mp (List.mem_map.mpr ⟨_, List.getElem_mem hlt, rfl⟩)
      · intro z
        rw [split, List.nodup_append] at ond
        exact ond.2.2 _ z _ (List.mem_cons_self ..) rfl
      · rw [List.length_take, List.length_map]; omega
      · intro en2 pt hpt
        obtain ⟨⟨k1, k2⟩, k3, k4⟩ := ok.kid _ (osp.mem_iff.mp (List.mem_map.mpr ⟨_, List.getElem_mem hlt, rfl⟩)) en2 pt hpt
        exact ⟨kids_done osp opw split k1 k2, kids_done osp opw split k3 k4⟩
      · refine ⟨fun F' ρ' σ' H' e1 g6 R7 => ⟨F', some (.d (stD qs[i].2)), g5.trans g6, ?_⟩, fun _ _ _ _ a _ _ => a.elim, fun _ _ _ _ a _ _ => a.elim, fun _ _ _ _ a _ _ _ _ => a.elim⟩
        subst e1
        rw [take1]; exact R7
    · have ei : i = qs.length := by omega
      refine .inl ⟨⟨_, SqL.of hp5, by rw [List.length_map]; omega⟩, ?_⟩
      have et : (qs.map fun x => x.2).take i = qs.map fun x => x.2 := List.take_of_length_le (by rw [List.length_map]; omega)
      rw [et] at R5
      obtain ⟨F6, g6, R6⟩ := Rep.fz R5 (i := 4) rfl rfl
      obtain ⟨v, s5, r5⟩ := R6.at_ 4 _ rfl
      have r5 : Rp K w F6 v (.dic ((qs.map fun x => x.2).map stD) ((qs.map fun x => x.2).map fun s => btD (bt s))) := r5
      refine ⟨v, s5, hp _ _ F6 H5 (hk _ osp) ?_ ?_ R6.fh r5 (tabs_same tabs3 R5.gh)⟩
      · -- ExtN F0 F6
        intro b o z n
        exact g6.ff b o (g5.ff b o (noT_of ((((g1.trans g2).trans g3).trans g4).ff b o z) n))
      · -- ExtN H H5
        intro b o z n
        have z4 := R4.gh b o z
        have ne : b ≠ q4 := fun c => by rw [c, hg4] at z; cases z
        exact R5.gh b o (by rw [G2n b ne]; exact e4c b o z4 n)
end K96
end

section
set_option Elab.async false
set_option linter.all false
set_option maxRecDepth 100000
set_option maxHeartbeats 2000000
namespace K96
open PySem PySem.Spec PyProof.Rows L2 PL LamX
variable {P : Program} {w : World} {K : PySem.W.Frag} {mg : Str → Option Value} {base : Heap}
/-- a def whose code object stands at c -/
def FunC (K : PySem.W.Frag) (x qual : Str) (params : Arguments) (body : List Stmt) (scope : Scope) (f : Addr) (fd : FuncData) (c : Addr) : Prop :=
  ∃ (oc : Value) (od : Option Addr) (dV kV doc pm : Value) (an : Option Addr) (ct : Value) (osl : Array (Option Value)),
    fd = PySem.W.fnOf x qual params body scope dV kV doc pm an (.ref c) ct ∧ K.lookup f = some ⟨oc, od, .func fd, osl⟩ ∧ PySem.W.codeIn K (.ref c) qual = true
theorem FunC.ok {CX : CXT} {N ps : List Str} {k : Nat} {sp : Sp} {x qual : Str} {params : Arguments} {body : List Stmt} {scope : Scope} {f c : Addr} {fd : FuncData} (F : FunC K x qual params body scope f fd c) (S : FnScope N ps scope) (len : ∀ vs H Q E, sp vs H Q E → vs.length = ps.length)
    (hbody : ∀ (A : Around) (outer : List Env) (s : Shared) (H : Hp) (vs : List V) (Q : VK) (E : XK), Room k (A.deeper (envOfC qual scope s.heap.objs.size f (.ref c))) → sp vs H Q E →
      ∃ t, PSs (cxOf CX P w K mg base N qual scope f (.ref c) A outer s H E) body t ∧ t { nx := fun _ H' => Q .non H', rt := Q } (L2.start N vs) H) : FnOk P w K mg base CX (k + 1) f fd ps sp := by
  obtain ⟨oc, od, dV, kV, doc, pm, an, ct, osl, rfl, lk, hcd⟩ := F
  exact fn_of lk hcd S len fun A outer s H vs Q E hr hsp => hbody A outer s H vs Q E hr hsp
theorem hu_one {Pt : Addr} {q : Str} : ∀ p ∈ [(Pt, q)], p.1 = Pt → p.2 = q := fun p hp _ => by rw [List.mem_singleton.mp hp]
theorem hm_one {Pt : Addr} {q : Str} : (Pt, q) ∈ [(Pt, q)] := List.mem_singleton.mpr rfl
theorem hm_q {Pt : Addr} {q q' r : Str} (e : q' = q) : (Pt, q' ++ r) ∈ [(Pt, q ++ r)] := by rw [e]; exact hm_one
theorem hu_q {Pt : Addr} {q q' r : Str} (e : q' = q) : ∀ p ∈ [(Pt, q ++ r)], p.1 = Pt → p.2 = q' ++ r := by rw [e]; exact hu_one
abbrev N_best_trees : List Str := ["faces", "names", "mark", "found", "best", "state"]
theorem sc_best_trees : FnScope N_best_trees ["faces"] (defScope s_best_trees) := ⟨rfl, rfl, rfl, by decide +kernel, rfl, by decide +kernel, by decide +kernel⟩
abbrev bB : TXS := lB
theorem raw_best_trees (h : HD P w K mg base) {f c Pt : Addr} {fd : FuncData} (F : FunC K "best_trees" "best_trees" (defArgs s_best_trees) (defBody s_best_trees) (defScope s_best_trees) f fd c) (TB : TabB base mg c Pt) : FnOk P w K mg base CX0 6 f fd ["faces"] (spT K w [(Pt, lamN)] 1 T_best_trees) := by
  have C_greatest_mark := ok_greatest_mark h
  have C_all_states := ok_all_states h
  have C_best_parting := ok_best_parting h
  have C_width := ok_width h
  refine F.ok sc_best_trees (fun vs H Q E ⟨F, ds, _, _, r, hl, _⟩ => by rw [r.length, hl]; rfl) (fun A outer s H vs Q E hr hsp => ?_)
  have s1 : PXS (cxOf CX0 P w K mg base N_best_trees "best_trees" (defScope s_best_trees) f (.ref c) A outer s H E).nox ((defBody s_best_trees).getD 0 (.Pass ⟨0,0,0,0⟩)) b1 := (pxs_set (i := 1) sc_best_trees.nd rfl (Or.inl rfl) (px_ix (u65 hr) (pr_of (px_ix (u65 hr) (pr_var 0) px_int)) px_int))
  have s2 : PXS (cxOf CX0 P w K mg base N_best_trees "best_trees" (defScope s_best_trees) f (.ref c) A outer s H E).nox ((defBody s_best_trees).getD 1 (.Pass ⟨0,0,0,0⟩)) b2 := (pxs_set (i := 2) sc_best_trees.nd rfl (Or.inr rfl) (px_call C_greatest_mark hr (by decide) rfl (pxa_cons (pr_var 0) pxa_nil)))
  have s3 : PXS (cxOf CX0 P w K mg base N_best_trees "best_trees" (defScope s_best_trees) f (.ref c) A outer s H E).nox ((defBody s_best_trees).getD 2 (.Pass ⟨0,0,0,0⟩)) b3 := (pxs_set (i := 3) sc_best_trees.nd rfl (Or.inl rfl) (px_call C_all_states hr (by decide) rfl (pxa_cons (pr_var 1) (pxa_cons (pr_var 0) (pxa_cons (pr_var 2) pxa_nil)))))
  have s4 : PXS (cxOf CX0 P w K mg base N_best_trees "best_trees" (defScope s_best_trees) f (.ref c) A outer s H E).nox ((defBody s_best_trees).getD 3 (.Pass ⟨0,0,0,0⟩)) b4 := (pxs_newD (i := 4) sc_best_trees.nd rfl (Or.inl rfl))
  have sB : PXSs (cxOf CX0 P w K mg base N_best_trees "best_trees" (defScope s_best_trees) f (.ref c) A outer s H E).nox (match (defBody s_best_trees).getD 4 (.Pass ⟨0,0,0,0⟩) with | .For _ _ b _ _ => b | _ => []) bB := (pxs_one (pxs_if (pxt_cmp (op_neD' (u64 hr)) (px_ix (u65 hr) (pr_var 3) (px_var 5)) (px_neg px_int)) (pxs_one (pxs_put 4 (u65 hr) (px_var 5) (px_tup (pxa_cons (pr_of px_int) (pxa_cons (pr_of (px_tup (pxa_cons (pr_of px_str) (pxa_cons (pr_of (px_ix (u65 hr) (pr_var 3) (px_var 5))) pxa_nil)))) pxa_nil))))) (pxs_one (pxs_put 4 (u65 hr) (px_var 5) (px_call C_best_parting hr (by decide) rfl (pxa_cons (pr_var 5) (pxa_cons (pr_var 1) (pxa_cons (pr_var 2) (pxa_cons (pr_var 4) pxa_nil)))))))))
  obtain ⟨fw, fwd, Fw, mw, kw, bw⟩ := C_width.ex
  have s5 : PS (cxOf CX0 P w K mg base N_best_trees "best_trees" (defScope s_best_trees) f (.ref c) A outer s H E).nox ((defBody s_best_trees).getD 4 (.Pass ⟨0,0,0,0⟩)) (tFor (iList K (tSortL w [(Pt, lamN)] 3 2 (tCall (spP K w 2 T_width) [] C8.E0 (tCons (tVar 0) (tCons (tVar 1) tNil))))) (gName 5) (liftS K w bB)) := by
    refine ps_for PassesOwn.never rfl (pi_list ?se) (pg_name (i := 5) sc_best_trees.nd rfl (Or.inl rfl)) sB
    refine pe_sortL (k := 2) (a := "state") (b := "mark") rfl h.b_sorted TB rfl ?m1 ?m2 hr ?a1 ?a2 ⟨rfl, rfl, rfl, by decide +kernel, rfl, by decide +kernel, (fun y hy e => (show ∀ y ∈ ([("state", .local), ("mark", .free), ("width", .globalImplicit)] : List (Str × NameKind)), y.2 = .free → (defScope s_best_trees).names.lookup y.1 = some .cell ∨ (defScope s_best_trees).names.lookup y.1 = some .free by decide +kernel) y hy e)⟩ rfl (fun _ _ _ _ _ _ => rfl) rfl (Or.inl rfl) rfl (by decide) ?bd
    case m1 => exact hm_q rfl
    case m2 => exact hu_q rfl
    case a1 => exact List.mem_filterMap.mpr ⟨_, List.mem_cons_self .., rfl⟩
    case a2 =>
      intro b hb
      obtain ⟨x, hx, e⟩ := List.mem_filterMap.mp hb
      exact List.mem_filterMap.mpr ⟨x, List.mem_cons_of_mem _ hx, e⟩
    case bd =>
      intro A1 s1 H1 f1 c1 hr1
      exact pe_call Fw (hr1.mono (by decide)) rfl mw kw bw .nil pass0 (pa_cons (pv 0) (pa_cons (pv 1) pa_nil))
  refine ⟨_, PSs.nox (pss_cons s1 (pss_cons s2 (pss_cons s3 (pss_cons s4 (pss_cons s5 (pss_one (ps_ret (pv 4)))))))), ?_⟩
  exact read_best hsp
end K96
end

section
set_option Elab.async false
set_option linter.all false
set_option maxRecDepth 100000
set_option maxHeartbeats 2000000
namespace K96
open PySem PySem.Spec PyProof.Rows L2 PL LamX
variable {P : Program} {w : World} {K : PySem.W.Frag} {mg : Str → Option Value} {base : Heap} {c Pt : Addr}
/-- a def of the top with its promise -/
def CalS (P : Program) (w : World) (K : PySem.W.Frag) (mg : Str → Option Value) (base : Heap) (x : Str) (k : Nat) (ps : List Str) (sp : Sp) : Prop := ∃ f fd, FnOk P w K mg base CX0 k f fd ps sp ∧ mg x = some (.ref f) ∧ PySem.W.keepIn K (.ref f) = true ∧ L2.Binds K fd ps []
/-- what the walk knows of the program, best_trees' code object and its table too -/
structure HT (P : Program) (w : World) (K : PySem.W.Frag) (mg : Str → Option Value) (base : Heap) (c Pt : Addr) : Prop where
  hd : HD P w K mg base
  tb : TabB base mg c Pt
  bt : ∃ f fd, FunC K "best_trees" "best_trees" (defArgs s_best_trees) (defBody s_best_trees) (defScope s_best_trees) f fd c ∧ mg "best_trees" = some (.ref f) ∧ PySem.W.keepIn K (.ref f) = true ∧ L2.Binds K fd ["faces"] []
theorem ok_best_trees (h : HT P w K mg base c Pt) : CalS P w K mg base "best_trees" 6 ["faces"] (spT K w [(Pt, lamN)] 1 T_best_trees) := by
  obtain ⟨f, fd, F, m, k, b⟩ := h.bt
  exact ⟨f, fd, raw_best_trees h.hd F h.tb, m, k, b⟩
def T_fewest_of : FT := fun ds k => ∃ (fs : List Face) (ns : List Str) (N : Nat) (st : List Stt) (Good : Stt → Prop) (bt : Stt → Int × Tree), ds = [facesD fs] ∧ FsOk fs ns ∧ Closed ns (gmark fs) Good ∧ Good (arrs ns.length, 1, 0) ∧
  allGo fs ns (gmark fs) N [(arrs ns.length, 1, 0)] [] = some st ∧ BtOk fs ns (gmark fs) st bt ∧ st.Nodup ∧ st.length ≤ 2000 ∧ (arrs ns.length, (1 : Int), (0 : Int)) ∈ st ∧ k (btD (bt (arrs ns.length, 1, 0)))
abbrev N_fewest_of : List Str := ["faces"]
theorem sc_fewest_of : FnScope N_fewest_of ["faces"] (defScope s_fewest_of) := ⟨rfl, rfl, rfl, by decide +kernel, rfl, by decide +kernel, by decide +kernel⟩
abbrev xStart : TX := xFn 1 T_start_state (aCons (rOf (xCall lenD (aCons (rOf (xIx (rOf (xIx (rVar 0) (xC (.int 0)))) (xC (.int 0)))) aNil))) aNil)
theorem read_fewest {vs : List V} {H : Hp} {Q : VK} {E : XK} (hsp : spT K w [(Pt, lamN)] 1 T_fewest_of vs H Q E) :
    tRet (tOp (PL.rIxD K w) (tCall (spT K w [(Pt, lamN)] 1 T_best_trees) [] C8.E0 (tCons (tVar 0) tNil)) (liftE K w xStart)) { nx := fun _ H' => Q .non H', rt := Q } (L2.start ["faces"] vs) H := by
  obtain ⟨F0, ds, k, same, r, hl, ⟨fs, ns, N, st, Good, bt, rfl, h, cl, g0, e, ok, nd, few, mem, hk⟩, tabs, hp⟩ := hsp
  obtain ⟨f, rest, ef, en⟩ := h.at0
  have a0 : atI (fs.map faceD) 0 = some (faceD f) := by rw [ef, List.map_cons, atI_zero]
  have n3 := h.n3
  cases r with
  | @cons v vs0 _ _ r1 r2 =>
  cases r2
  refine ⟨v, rfl, ?_⟩
  refine ⟨F0, [facesD fs], fun x => ∃ os : List Stt, os.Perm st ∧ x = .dic (os.map stD) (os.map fun s => btD (bt s)), same, .cons r1 .nil, rfl, ⟨fs, ns, N, st, Good, bt, rfl, h, cl, g0, e, ok, nd, few, fun os p => ⟨os, p, rfl⟩⟩, tabs, ?_⟩
  rintro x u F1 H1 ⟨os, op, rfl⟩ e1 e2 s1 rp tabs1
  have R1 : Rep K w H1 F1 [some (.d (facesD fs))] (L2.start ["faces"] [v]) H1 := start_rep (N := ["faces"]) s1 (.cons (Rp.extN e1 r1) .nil)
  refine ⟨H1, F1, _, fun y => y = stD (arrs ns.length, 1, 0), R1, ?_, fun y z F2 H2 hy n2 rz => ?_⟩
  · simp [a0, en]
    exact ⟨ns.length, rfl, by omega, rfl⟩
  · subst hy
    refine ⟨F2, .d (.dic (os.map stD) (os.map fun s => btD (bt s))), stD (arrs ns.length, 1, 0), fun x => x = btD (bt (arrs ns.length, 1, 0)), n2.fh, Rp.same n2.ff rp, rz, ?_, fun x3 v3 F3 H3 hx3 n3' r3 => ?_⟩
    · show D.kok 8 _ = true ∧ match dLook (os.map stD) (os.map fun s => btD (bt s)) (stD (arrs ns.length, 1, 0)) with | some v => _ | none => False
      rw [dLook_map (op.mem_iff.mpr mem)]
      exact ⟨kok_st _, rfl⟩
    · subst hx3
      exact hp _ _ F3 H3 hk ((e1.trans (.of fun b o z => n2.ff b o z)).trans (.of fun b o z => n3'.ff b o z)) ((e2.trans (.of fun b o z => n2.hh b o z)).trans (.of fun b o z => n3'.hh b o z)) n3'.fh r3 (tabs_same (tabs_same tabs1 n2.hh) n3'.hh)
theorem ok_fewest_of (h : HT P w K mg base c Pt) : CalS P w K mg base "fewest_of" 7 ["faces"] (spT K w [(Pt, lamN)] 1 T_fewest_of) := by
  obtain ⟨f, fd, F, m⟩ := h.hd.f_fewest_of
  obtain ⟨fb, fbd, Fb, mb, kb, bb⟩ := ok_best_trees h
  have C_start_state := ok_start_state h.hd
  refine ⟨f, fd, F.ok sc_fewest_of (fun vs H Q E ⟨F, ds, _, _, r, hl, _⟩ => by rw [r.length, hl]; rfl) (fun cdv A outer s H vs Q E hr hsp => ?_), m, F.kp, F.bindsN fun _ _ _ _ _ _ us hl => match us, hl with | [_], _ => rfl⟩
  refine ⟨_, PSs.nox (pss_one (ps_ret (pe_ix (ix_D (u65 hr)) (pe_call Fb hr rfl mb kb bb .nil pass0 (pa_cons (pv 0) pa_nil)) (px_call C_start_state hr (by decide) rfl (pxa_cons (pr_of (px_callB cr_len rfl h.hd.b_len boot_len (pxa_cons (pr_of (px_ix (u65 hr) (pr_of (px_ix (u65 hr) (pr_var 0) px_int)) px_int)) pxa_nil))) pxa_nil)) (by intro _ _; rfl)))), ?_⟩
  exact read_fewest hsp
def T_few (i : Int) (f : Int × Tree → D) : FT := fun ds k => ∃ (fs : List Face) (ns : List Str) (N : Nat) (st : List Stt) (Good : Stt → Prop) (bt : Stt → Int × Tree), ds = [facesD fs] ∧ FsOk fs ns ∧ noC (metF ns fs) = true ∧ Closed ns (gmark fs) Good ∧ Good (arrs ns.length, 1, 0) ∧
  allGo fs ns (gmark fs) N [(arrs ns.length, 1, 0)] [] = some st ∧ BtOk fs ns (gmark fs) st bt ∧ st.Nodup ∧ st.length ≤ 2000 ∧ (arrs ns.length, (1 : Int), (0 : Int)) ∈ st ∧ atI [D.int (bt (arrs ns.length, 1, 0)).1, treeD (bt (arrs ns.length, 1, 0)).2] i = some (f (bt (arrs ns.length, 1, 0))) ∧ k (f (bt (arrs ns.length, 1, 0)))
abbrev T_split_tree : FT := T_few 1 fun p => treeD p.2
abbrev T_fewest_ends : FT := T_few 0 fun p => .int p.1
theorem read_few {i : Int} {g : Int × Tree → D} {vs : List V} {H : Hp} {Q : VK} {E : XK} (hsp : spT K w [(Pt, lamN)] 1 (T_few i g) vs H Q E) :
    tSeq (liftS K w (sDrop (xFn 1 T_check_split_faces (aCons (rVar 0) aNil)))) (tRet (tOp (PL.rIxD K w) (tCall (spT K w [(Pt, lamN)] 1 T_fewest_of) [] C8.E0 (tCons (tVar 0) tNil)) (liftE K w (xC (.int i))))) { nx := fun _ H' => Q .non H', rt := Q } (L2.start ["faces"] vs) H := by
  obtain ⟨F0, ds, k, same, r, hl, ⟨fs, ns, N, st, Good, bt, rfl, h, hn, cl, g0, e, ok, nd, few, mem, hi, hk⟩, tabs, hp⟩ := hsp
  have R0 : Rep K w H F0 [some (.d (facesD fs))] (L2.start ["faces"] vs) H := start_rep (N := ["faces"]) same r
  refine stage (C := fun ρ => ρ = [some (.d (facesD fs))]) R0 (by simp; exact ⟨fs, ns, rfl, h, hn, trivial⟩) fun F1 ρ1 σ1 H1 g1 q1 R1 => ?_
  subst q1
  obtain ⟨v, s1, r1⟩ := R1.at_ 0 _ rfl
  have r1 : Rp K w F1 v (facesD fs) := r1
  refine ⟨v, s1, ?_⟩
  refine ⟨F1, [facesD fs], fun x => x = btD (bt (arrs ns.length, 1, 0)), R1.fh, .cons r1 .nil, rfl, ⟨fs, ns, N, st, Good, bt, rfl, h, cl, g0, e, ok, nd, few, mem, rfl⟩, tabs_same tabs R1.gh, ?_⟩
  rintro x u F2 H2 rfl e1 e2 s2 rp tabs1
  have cl2 : liftE K w (xC (.int i)) σ1 H2 (fun u2 H3 => PL.rIxD K w u u2 H3 Q) := by
    have R2' : Rep K w H2 F2 (σ1.map fun _ => none) σ1 H2 := by
      refine ⟨Same.refl _, s2, by simp, fun j pv q => ?_, fun a b p q v ea => ?_⟩
      · rw [List.getElem?_map] at q
        cases z : σ1[j]? <;> (rw [z] at q; cases q)
      · rw [List.getElem?_map] at ea
        cases z : σ1[a]? <;> (rw [z] at ea; cases ea)
    refine ⟨H2, F2, _, fun y => y = .int i, R2', rfl, fun y z F3 H3 hy n3 rz => ?_⟩
    subst hy
    refine ⟨F3, .d (btD (bt (arrs ns.length, 1, 0))), .int i, fun x => x = g (bt (arrs ns.length, 1, 0)), n3.fh, Rp.same n3.ff rp, rz, ?_, fun x4 v4 F4 H4 hx4 n4 r4 => ?_⟩
    · show match atI [D.int (bt (arrs ns.length, 1, 0)).1, treeD (bt (arrs ns.length, 1, 0)).2] i with | some v => _ | none => False
      rw [hi]
    · subst hx4
      exact hp _ _ F4 H4 hk (((ExtN.of fun b o z => g1.ff b o z).trans e1).trans ((ExtN.of fun b o z => n3.ff b o z).trans (.of fun b o z => n4.ff b o z))) (((ExtN.of fun b o z => R1.gh b o z).trans e2).trans ((ExtN.of fun b o z => n3.hh b o z).trans (.of fun b o z => n4.hh b o z))) n4.fh r4 (tabs_same (tabs_same tabs1 n3.hh) n4.hh)
  exact cl2
abbrev N_split_tree : List Str := ["faces"]
theorem sc_split_tree : FnScope N_split_tree ["faces"] (defScope s_split_tree) := ⟨rfl, rfl, rfl, by decide +kernel, rfl, by decide +kernel, by decide +kernel⟩
theorem sc_fewest_ends : FnScope N_split_tree ["faces"] (defScope s_fewest_ends) := ⟨rfl, rfl, rfl, by decide +kernel, rfl, by decide +kernel, by decide +kernel⟩
theorem ok_split_tree (h : HT P w K mg base c Pt) : CalS P w K mg base "split_tree" 8 ["faces"] (spT K w [(Pt, lamN)] 1 T_split_tree) := by
  obtain ⟨f, fd, F, m⟩ := h.hd.f_split_tree
  obtain ⟨fb, fbd, Fb, mb, kb, bb⟩ := ok_fewest_of h
  have C_check := ok_check_split_faces h.hd
  refine ⟨f, fd, F.ok sc_split_tree (fun vs H Q E ⟨F, ds, _, _, r, hl, _⟩ => by rw [r.length, hl]; rfl) (fun cdv A outer s H vs Q E hr hsp => ?_), m, F.kp, F.bindsN fun _ _ _ _ _ _ us hl => match us, hl with | [_], _ => rfl⟩
  refine ⟨_, PSs.nox (pss_cons (pxs_drop (px_call C_check hr (by decide) rfl (pxa_cons (pr_var 0) pxa_nil))) (pss_one (ps_ret (pe_ix (ix_D (u65 hr)) (pe_call Fb hr rfl mb kb bb .nil pass0 (pa_cons (pv 0) pa_nil)) px_int (by intro _ _; rfl))))), ?_⟩
  exact read_few hsp
theorem ok_fewest_ends (h : HT P w K mg base c Pt) : CalS P w K mg base "fewest_ends" 8 ["faces"] (spT K w [(Pt, lamN)] 1 T_fewest_ends) := by
  obtain ⟨f, fd, F, m⟩ := h.hd.f_fewest_ends
  obtain ⟨fb, fbd, Fb, mb, kb, bb⟩ := ok_fewest_of h
  have C_check := ok_check_split_faces h.hd
  refine ⟨f, fd, F.ok sc_fewest_ends (fun vs H Q E ⟨F, ds, _, _, r, hl, _⟩ => by rw [r.length, hl]; rfl) (fun cdv A outer s H vs Q E hr hsp => ?_), m, F.kp, F.bindsN fun _ _ _ _ _ _ us hl => match us, hl with | [_], _ => rfl⟩
  refine ⟨_, PSs.nox (pss_cons (pxs_drop (px_call C_check hr (by decide) rfl (pxa_cons (pr_var 0) pxa_nil))) (pss_one (ps_ret (pe_ix (ix_D (u65 hr)) (pe_call Fb hr rfl mb kb bb .nil pass0 (pa_cons (pv 0) pa_nil)) px_int (by intro _ _; rfl))))), ?_⟩
  exact read_few hsp
end K96
end

section
set_option Elab.async false
set_option linter.all false
set_option maxRecDepth 100000
set_option maxHeartbeats 2000000
namespace K96
open PySem PySem.Spec PyProof.Rows L2 PL
theorem m_ref {a b : List Int} : refB a b = true ↔ ∀ i j, i < a.length → j < a.length → a.getD i 0 = a.getD j 0 → b.getD i 0 = b.getD j 0 := by
  unfold refB refP
  simp only [List.all_eq_true, List.mem_range, Bool.not_eq_true', Bool.and_eq_false_imp, decide_eq_true_eq, Bool.not_eq_false']
  constructor
  · intro h i j hi hj e
    rcases Nat.lt_trichotomy i j with q | q | q
    · exact (h j hj i q e.symm).symm
    · rw [q]
    · exact h i hi j q e
  · intro h i hi j hj e
    exact h i j hi (by omega) e
theorem m_fin1 : ∀ n ≤ 3, ∀ a ∈ arrs n, ∀ b ∈ arrs n, numb (a.zip b) ∈ arrs n ∧ refB (numb (a.zip b)) a = true ∧ refB (numb (a.zip b)) b = true := by decide +kernel
theorem m_fin2 : ∀ n ≤ 3, ∀ a ∈ arrs n, ∀ b ∈ arrs n, lawMet a b = numb (a.zip b) ∧ decide (lawMet a b = b) = refB b a := by decide +kernel
theorem m_fin3 : ∀ n ≤ 3, ∀ a ∈ arrs n, ∀ b ∈ arrs n, refB a b = true → a ≠ b → ctot b < ctot a := by decide +kernel
theorem m_fin4 : ∀ n ≤ 3, ∀ a ∈ arrs n, ∀ b ∈ arrs n, ∀ c ∈ arrs n, refB c a = true → refB c b = true → refB c (numb (a.zip b)) = true := by decide +kernel
theorem m_fin (n : Nat) (hn : n ≤ 3) (a : List Int) (ha : a ∈ arrs n) (b : List Int) (hb : b ∈ arrs n) : numb (a.zip b) ∈ arrs n ∧ refB (numb (a.zip b)) a = true ∧ refB (numb (a.zip b)) b = true ∧ lawMet a b = numb (a.zip b) ∧ decide (lawMet a b = b) = refB b a ∧ (refB a b = true → a ≠ b → ctot b < ctot a) ∧
    ∀ c ∈ arrs n, refB c a = true → refB c b = true → refB c (numb (a.zip b)) = true :=
  ⟨(m_fin1 n hn a ha b hb).1, (m_fin1 n hn a ha b hb).2.1, (m_fin1 n hn a ha b hb).2.2, (m_fin2 n hn a ha b hb).1, (m_fin2 n hn a ha b hb).2, m_fin3 n hn a ha b hb, fun c hc => m_fin4 n hn a ha b hb c hc⟩
theorem m_one : ∀ n ≤ 3, iota n ∈ arrs n ∧ (arrs n).Nodup ∧ ctot (iota n) = n ∧ ∀ a ∈ arrs n, refB (iota n) a = true ∧ numb (a.zip a) = a ∧ (1 ≤ n → 1 ≤ ctot a) ∧ 0 ≤ ctot a ∧ ctot a ≤ n ∧ a.length = n := by decide +kernel
theorem ref_trans {n : Nat} (hn : n ≤ 3) {a b c : List Int} (ha : a ∈ arrs n) (hb : b ∈ arrs n) (h1 : refB a b = true) (h2 : refB b c = true) : refB a c = true := by
  have la := ((m_one n hn).2.2.2 a ha).2.2.2.2.2
  have lb := ((m_one n hn).2.2.2 b hb).2.2.2.2.2
  rw [m_ref] at h1 h2 ⊢
  intro i j hi hj e
  exact h2 i j (by omega) (by omega) (h1 i j hi hj e)
theorem fold_step {n : Nat} (hn : n ≤ 3) {kn : List Int} (hk : kn ∈ arrs n) : ∀ (l : List (List Int)) (o : Option (List Int)), (∀ a ∈ l, a ∈ arrs n ∧ refB kn a = true) → (∀ b, o = some b → b ∈ arrs n ∧ refB kn b = true) →
    (l.foldl step o = none → l = [] ∧ o = none) ∧ ∀ t, l.foldl step o = some t → (t ∈ arrs n ∧ refB kn t = true) ∧ (∀ b, o = some b → refB t b = true) ∧ (∀ a ∈ l, refB t a = true) ∧
      ∀ S : List (List Int), (∀ a ∈ l, a ∈ S) → (∀ b, o = some b → b ∈ S) → (∀ a ∈ S, ∀ b ∈ S, numb (a.zip b) ∈ S) → t ∈ S
  | [], o, _, ho => ⟨fun h => ⟨rfl, h⟩, fun t ht => by
      refine ⟨ho t ht, fun b hb => ?_, (fun a ha => by cases ha), fun S _ h2 _ => h2 t ht⟩
      have ht : o = some t := ht
      rw [ht] at hb; cases hb
      rw [m_ref]; exact fun i j _ _ e => e⟩
  | a :: l, o, hl, ho => by
    obtain ⟨a1, a2⟩ := hl a (List.mem_cons_self ..)
    have hs : ∀ b, step o a = some b → (b ∈ arrs n ∧ refB kn b = true) ∧ refB b a = true ∧ ∀ c, o = some c → refB b c = true := fun b hb => by
      cases o with
      | none => cases hb; exact ⟨⟨a1, a2⟩, by rw [m_ref]; exact fun i j _ _ e => e, fun c hc => by cases hc⟩
      | some c =>
        cases hb
        obtain ⟨c1, c2⟩ := ho c rfl
        obtain ⟨f1, f2, f3, _, _, _, f4⟩ := m_fin n hn c c1 a a1
        exact ⟨⟨f1, f4 kn hk c2 a2⟩, f3, fun d hd => by cases hd; exact f2⟩
    obtain ⟨g1, g2⟩ := fold_step hn hk l (step o a) (fun x hx => hl x (List.mem_cons_of_mem _ hx)) (fun b hb => (hs b hb).1)
    refine ⟨fun h => ?_, fun t ht => ?_⟩
    · obtain ⟨_, q⟩ := g1 h
      cases o <;> cases q
    · obtain ⟨⟨t1, t2⟩, t3, t4, t5⟩ := g2 t ht
      have tr : ∀ b, step o a = some b → ∀ c, refB b c = true → refB t c = true := fun b hb c hc => ref_trans hn t1 (hs b hb).1.1 (t3 b hb) hc
      obtain ⟨b, hb⟩ : ∃ b, step o a = some b := by cases o <;> exact ⟨_, rfl⟩
      refine ⟨⟨t1, t2⟩, fun c hc => tr b hb c ((hs b hb).2.2 c hc), fun x hx => ?_, fun S h1 h2 h3 => ?_⟩
      · rcases List.mem_cons.mp hx with e | e
        · rw [e]; exact tr b hb a (hs b hb).2.1
        · exact t4 x e
      · refine t5 S (fun x hx => h1 x (List.mem_cons_of_mem _ hx)) (fun b hb => ?_) h3
        cases o with
        | none => cases hb; exact h1 a (List.mem_cons_self ..)
        | some c => cases hb; exact h3 c (h2 c rfl) a (h1 a (List.mem_cons_self ..))
section
variable {n : Nat} {f : Face} {kn t : List Int}
theorem told_in (hn : n ≤ 3) (hf : f.1.length = n) : ∀ a ∈ (lets f).filter (fun a => refB kn a), a ∈ arrs n ∧ refB kn a = true := fun a ha => by
  obtain ⟨h1, h2⟩ := List.mem_filter.mp ha
  exact ⟨hf ▸ lets_sub h1, h2⟩
theorem told_none (hn : n ≤ 3) (hf : f.1.length = n) (hk : kn ∈ arrs n) (h : told f kn = none) : ∀ a ∈ lets f, refB kn a = false := fun a ha => by
  have := ((fold_step hn hk _ none (told_in hn hf) (fun b e => by cases e)).1 h).1
  cases c : refB kn a with
  | false => rfl
  | true =>
    have : a ∈ (lets f).filter (fun a => refB kn a) := List.mem_filter.mpr ⟨ha, c⟩
    simp_all
theorem told_some (hn : n ≤ 3) (hf : f.1.length = n) (hk : kn ∈ arrs n) (h : told f kn = some t) : t ∈ arrs n ∧ refB kn t = true ∧ (∀ a ∈ lets f, refB kn a = true → refB t a = true) ∧
    ∀ S : List (List Int), (∀ a ∈ lets f, a ∈ S) → (∀ a ∈ S, ∀ b ∈ S, numb (a.zip b) ∈ S) → t ∈ S := by
  obtain ⟨⟨h1, h2⟩, _, h3, h4⟩ := (fold_step hn hk _ none (told_in hn hf) (fun b e => by cases e)).2 t h
  exact ⟨h1, h2, fun a ha c => h3 a (List.mem_filter.mpr ⟨ha, c⟩), fun S q1 q2 => h4 S (fun a ha => q1 a (List.mem_filter.mp ha).1) (fun b e => by cases e) q2⟩
theorem lawLets_eq (hn : n ≤ 3) (hf : f.1.length = n) (hk : kn ∈ arrs n) : lawLets f kn = (lets f).filter (fun a => refB kn a) := by
  unfold lawLets
  apply List.filter_congr
  intro a ha
  exact (m_fin n hn a (hf ▸ lets_sub ha) kn hk).2.2.2.2.1
theorem fold_met (hn : n ≤ 3) : ∀ (l : List (List Int)) (a : List Int), a ∈ arrs n → (∀ b ∈ l, b ∈ arrs n) → l.foldl step (some a) = some (l.foldl lawMet a)
  | [], a, _, _ => rfl
  | b :: l, a, ha, hl => by
    have hb := hl b (List.mem_cons_self ..)
    obtain ⟨f1, _, _, f4, _⟩ := m_fin n hn a ha b hb
    rw [List.foldl_cons, List.foldl_cons, f4]
    exact fold_met hn l _ f1 fun c hc => hl c (List.mem_cons_of_mem _ hc)
theorem lawTold_eq (hn : n ≤ 3) (hf : f.1.length = n) (hk : kn ∈ arrs n) : lawTold f kn = told f kn := by
  unfold lawTold told
  rw [lawLets_eq hn hf hk]
  have hall := told_in (kn := kn) hn hf
  generalize (lets f).filter (fun a => refB kn a) = l at hall
  cases l with
  | nil => rfl
  | cons a r =>
    have ha := (hall a (List.mem_cons_self ..)).1
    have e := fold_met hn (a :: r) a ha (fun b hb => (hall b hb).1)
    have e2 : (a :: r).foldl step none = (a :: r).foldl step (some a) := by
      rw [List.foldl_cons, List.foldl_cons]
      show r.foldl step (some a) = r.foldl step (some (numb (a.zip a)))
      rw [((m_one n hn).2.2.2 a ha).2.1]
    show some _ = _
    rw [e2, e]
end
/-- the steps lead from one arrangement to another -/
def ChainOk (fs : List Face) : List Int → List Stp → List Int → Prop
  | a, [], b => a = b
  | a, (p, t) :: st, b => p < fs.length ∧ told (fs.getD p ([], [])) a = some t ∧ ChainOk fs t st b
theorem ChainOk.snoc {fs : List Face} : ∀ {a b c : List Int} {st : List Stp} {p : Nat}, ChainOk fs a st b → p < fs.length → told (fs.getD p ([], [])) b = some c → ChainOk fs a (st ++ [(p, c)]) c
  | _, _, _, [], _, h, h1, h2 => by
    have h : _ = _ := h
    subst h
    exact ⟨h1, h2, rfl⟩
  | _, _, _, _ :: _, _, ⟨q1, q2, q3⟩, h1, h2 => ⟨q1, q2, q3.snoc h1 h2⟩
theorem getD_mem {fs : List Face} {p : Nat} (h : p < fs.length) : fs.getD p ([], []) ∈ fs := by
  rw [List.getD_eq_getElem?_getD, List.getElem?_eq_getElem h]
  exact List.getElem_mem h
structure ExInv (fs : List Face) (n : Nat) (kn : List Int) (st : List Stp) (q t : Nat) : Prop where
  mem : kn ∈ arrs n
  qt : q ≤ t
  ql : q ≤ fs.length
  quiet : ∀ j, t - q ≤ j → j < t → told (fs.getD (j % fs.length) ([], [])) kn = some kn
  common : ∀ a, (∀ f ∈ fs, a ∈ lets f) → refB kn a = true
  chain : ChainOk fs (iota n) st kn
  few : (st.length : Int) + ctot kn ≤ n
/-- how the exchange ends -/
def ExEnd (fs : List Face) (n : Nat) (r : Option Nat × List Stp) : Prop := ∃ kn, kn ∈ arrs n ∧ ChainOk fs (iota n) r.2 kn ∧ (r.2.length ≤ n) ∧ (∀ a, (∀ f ∈ fs, a ∈ lets f) → refB kn a = true) ∧ match r.1 with
  | some p => p < fs.length ∧ told (fs.getD p ([], [])) kn = none
  | none => ∀ i, i < fs.length → told (fs.getD i ([], [])) kn = some kn
theorem ex_both {fs : List Face} {ns : List Str} (h : FsOk fs ns) : ∀ (L N : Nat) (kn : List Int) (st : List Stp) (q t : Nat), ExInv fs ns.length kn st q t → q < fs.length → (ctot kn).toNat * fs.length ≤ L + q → L < N →
    exGo fs N kn st q (t % fs.length) = some (lexGo fs (List.range' t L) kn st q) ∧ ExEnd fs ns.length (lexGo fs (List.range' t L) kn st q)
  | 0, N, kn, st, q, t, I, hq, hL, hN => by
    exfalso
    have h1 := ((m_one ns.length h.n3).2.2.2 kn I.mem).2.2.1 h.n1
    have : 1 * fs.length ≤ (ctot kn).toNat * fs.length := Nat.mul_le_mul_right _ (by omega)
    omega
  | L + 1, N, kn, st, q, t, I, hq, hL, hN => by
    cases N with
    | zero => omega
    | succ N =>
    have hp : t % fs.length < fs.length := Nat.mod_lt _ (by omega)
    have fok := h.ok _ (getD_mem hp)
    have fl : (fs.getD (t % fs.length) ([], [])).1.length = ns.length := by rw [fok.2]
    have n3 := h.n3
    have md : (t % fs.length + 1) % fs.length = (t + 1) % fs.length := by rw [Nat.mod_add_mod]
    rw [exGo, if_pos hq, List.range'_succ, lexGo, lawTold_eq n3 fl I.mem, md]
    have fewN : st.length ≤ ns.length := by
      have := I.few
      have := ((m_one ns.length n3).2.2.2 kn I.mem).2.2.2.1
      omega
    cases e : told (fs.getD (t % fs.length) ([], [])) kn with
    | none => exact ⟨rfl, kn, I.mem, I.chain, fewN, I.common, hp, e⟩
    | some u =>
      obtain ⟨u1, u2, u3, _⟩ := told_some n3 fl I.mem e
      dsimp only
      by_cases c : u = kn
      · subst c
        have I' : ExInv fs ns.length u st (q + 1) (t + 1) := ⟨I.mem, by have := I.qt; omega, hq, fun j h1 h2 => by
          by_cases z : j = t
          · rw [z]; exact e
          · exact I.quiet j (by omega) (by omega), I.common, I.chain, I.few⟩
        rw [if_pos rfl, if_pos rfl]
        by_cases c2 : q + 1 = fs.length
        · rw [if_pos c2]
          refine ⟨?_, u, I.mem, I.chain, fewN, I.common, fun i hi => ?_⟩
          · cases N with
            | zero => omega
            | succ N => rw [exGo, if_neg (by omega)]
          · -- a turn among the last
            have hm : 0 < fs.length := by omega
            have qt := I'.qt
            obtain ⟨j, j1, j2, j3⟩ : ∃ j, t + 1 - fs.length ≤ j ∧ j < t + 1 ∧ j % fs.length = i := by
              refine ⟨t - (t + fs.length - i) % fs.length, ?_, ?_, ?_⟩
              · have := Nat.mod_lt (t + fs.length - i) hm
                omega
              · omega
              · have l1 := Nat.mod_lt (t + fs.length - i) hm
                have d1 := Nat.div_add_mod (t + fs.length - i) fs.length
                have e3 : t - (t + fs.length - i) % fs.length + fs.length = i + fs.length * ((t + fs.length - i) / fs.length) := by omega
                have e4 : (t - (t + fs.length - i) % fs.length + fs.length) % fs.length = i % fs.length := by rw [e3, Nat.add_mul_mod_self_left]
                rw [Nat.add_mod_right, Nat.mod_eq_of_lt hi] at e4
                exact e4
            have := I'.quiet j (by omega) j2
            rw [j3] at this
            exact this
        · rw [if_neg c2]
          exact ex_both h L N u st (q + 1) (t + 1) I' (by omega) (by omega) (by omega)
      · have lt := (m_fin ns.length n3 kn I.mem u u1).2.2.2.2.2.1 u2 (fun z => c z.symm)
        have c0 := ((m_one ns.length n3).2.2.2 u u1).2.2.2.1
        rw [if_neg c, if_neg c, if_neg (by omega)]
        have I' : ExInv fs ns.length u (st ++ [(t % fs.length, u)]) 0 (t + 1) := ⟨u1, Nat.zero_le _, Nat.zero_le _, fun j h1 h2 => by omega, fun a ha => u3 a (ha _ (getD_mem hp)) (I.common a ha), I.chain.snoc hp e, by
          have := I.few
          rw [List.length_append]
          simp only [List.length_cons, List.length_nil]
          omega⟩
        refine ex_both h L N u _ 0 (t + 1) I' (by omega) ?_ (by omega)
        have h1 : (ctot u).toNat + 1 ≤ (ctot kn).toNat := by omega
        have h2 := Nat.mul_le_mul_right fs.length h1
        rw [Nat.add_mul] at h2
        omega
/-- the exchange and the law's own -/
theorem ex_law {fs : List Face} {ns : List Str} (h : FsOk fs ns) : exGo fs 1000 (iota ns.length) [] 0 0 = some (lexGo fs (List.range 60) (iota ns.length) [] 0) ∧ ExEnd fs ns.length (lexGo fs (List.range 60) (iota ns.length) [] 0) := by
  obtain ⟨i1, _, i2, i3⟩ := m_one ns.length h.n3
  have n3 := h.n3
  have few := h.few
  have ne : 0 < fs.length := by
    have := h.ne
    cases fs with
    | nil => exact absurd rfl this
    | cons _ _ => simp
  have e := ex_both h 60 1000 (iota ns.length) [] 0 0 ⟨i1, Nat.le_refl _, Nat.zero_le _, fun j h1 h2 => by omega, fun a ha => (i3 a (by
    cases fs with
    | nil => exact absurd rfl h.ne
    | cons f fs =>
      have := lets_sub (ha f (List.mem_cons_self ..))
      rw [(h.ok f (List.mem_cons_self ..)).2] at this
      exact this)).1, rfl, by rw [i2]; exact Int.le_of_eq (Int.zero_add _)⟩ ne (by
      rw [i2]
      have : (ns.length : Int).toNat * fs.length ≤ 3 * 10 := Nat.mul_le_mul (by omega) few
      omega) (by omega)
  rw [Nat.zero_mod, ← List.range_eq_range'] at e
  exact e
end K96
end

section
set_option Elab.async false
set_option linter.all false
set_option maxRecDepth 100000
set_option maxHeartbeats 2000000
namespace K96
open PySem PySem.Spec PyProof.Rows L2 PL
structure RW (r : Row) : Prop where
  mem : ∀ s ∈ r.1, 1 ≤ s
  ray : 0 ≤ r.2
theorem Sml.rw' {r : Row} (h : Sml r) (q : 0 ≤ r.2) : RW r := ⟨fun s hs => (h.mem s hs).1, q⟩
theorem RowV.rw' {r : Row} (h : RowV r) : RW r := ⟨fun s hs => (h.mem s hs).1, h.ray.1⟩
theorem has_zero {s : Int} : has ([], 0) s = false := by simp [has]
theorem has_iff {r : Row} {s : Int} : has r s = true ↔ s ∈ r.1 ∨ 0 < r.2 ∧ r.2 ≤ s := by simp [has]
theorem trim_has : ∀ (rs : List Int) (t : Int), (∀ s ∈ rs, 1 ≤ s) → 1 ≤ t → RW (trimR rs t) ∧ 0 < (trimR rs t).2 ∧ ∀ s, has (trimR rs t) s = true ↔ s ∈ rs ∨ t ≤ s
  | [], t, _, ht => ⟨⟨(fun s hs => by cases hs), by show 0 ≤ t; omega⟩, by show 0 < t; omega, fun s => by
      rw [has_iff]; show s ∈ [] ∨ 0 < t ∧ t ≤ s ↔ _
      constructor
      · rintro (h | h)
        · cases h
        · exact .inr h.2
      · rintro (h | h)
        · cases h
        · exact .inr ⟨by omega, h⟩⟩
  | y :: ys, t, h, ht => by
    have hy := h y (List.mem_cons_self ..)
    unfold trimR
    by_cases c : y = t - 1
    · rw [if_pos c]
      obtain ⟨h1, h2, h3⟩ := trim_has ys (t - 1) (fun s hs => h s (List.mem_cons_of_mem _ hs)) (by omega)
      refine ⟨h1, h2, fun s => ?_⟩
      rw [h3 s, List.mem_cons]
      constructor
      · rintro (q | q)
        · exact .inl (.inr q)
        · by_cases z : s = y
          · exact .inl (.inl z)
          · right; omega
      · rintro ((q | q) | q)
        · right; omega
        · exact .inl q
        · right; omega
    · rw [if_neg c]
      refine ⟨⟨fun s hs => h s (List.mem_reverse.mp hs), by show 0 ≤ t; omega⟩, by show 0 < t; omega, fun s => ?_⟩
      rw [has_iff]
      show s ∈ (y :: ys).reverse ∨ 0 < t ∧ t ≤ s ↔ _
      rw [List.mem_reverse]
      constructor
      · rintro (h | h)
        · exact .inl h
        · exact .inr h.2
      · rintro (h | h)
        · exact .inl h
        · exact .inr ⟨by omega, h⟩
theorem has_tidy {ns : List Int} {ray : Int} (h1 : ∀ s ∈ ns, 1 ≤ s) (h2 : 0 ≤ ray) : RW (tidy ns ray) ∧ ∀ s, has (tidy ns ray) s = true ↔ s ∈ ns ∨ 0 < ray ∧ ray ≤ s := by
  unfold tidy
  by_cases c : ray = 0
  · subst c
    simp only [ne_eq, not_true, if_false]
    refine ⟨⟨fun s hs => h1 s (srt_mem.mp hs), Int.le_refl _⟩, fun s => ?_⟩
    rw [has_iff]
    show s ∈ srt ns ∨ (0 : Int) < 0 ∧ _ ↔ _
    rw [srt_mem]
  · simp only [ne_eq, c, not_false_eq_true, if_true]
    obtain ⟨a, b, d⟩ := trim_has ((srt ns).filter fun x => decide (x < ray)).reverse ray (fun s hs => h1 s (srt_mem.mp (List.mem_filter.mp (List.mem_reverse.mp hs)).1)) (by omega)
    refine ⟨a, fun s => ?_⟩
    rw [d s, List.mem_reverse, List.mem_filter, srt_mem, decide_eq_true_eq]
    constructor
    · rintro (q | q)
      · exact .inl q.1
      · exact .inr ⟨by omega, q⟩
    · rintro (q | q)
      · by_cases z : s < ray
        · exact .inl ⟨q, z⟩
        · right; omega
      · exact .inr q.2
theorem has_meet {a b : Row} (ha : RW a) (hb : RW b) : RW (meetR a b) ∧ ∀ s, has (meetR a b) s = true ↔ has a s = true ∧ has b s = true := by
  have a0 := ha.ray
  have b0 := hb.ray
  obtain ⟨h1, h2⟩ := has_tidy (ns := a.1.filter (has b) ++ b.1.filter (has a)) (ray := if a.2 ≠ 0 ∧ b.2 ≠ 0 then max a.2 b.2 else 0) (fun s hs => by
    rcases List.mem_append.mp hs with q | q
    · exact ha.mem s (List.mem_filter.mp q).1
    · exact hb.mem s (List.mem_filter.mp q).1) (by split <;> omega)
  refine ⟨h1, fun s => ?_⟩
  unfold meetR
  rw [h2 s, List.mem_append, List.mem_filter, List.mem_filter]
  constructor
  · rintro ((q | q) | q)
    · exact ⟨has_iff.mpr (.inl q.1), q.2⟩
    · exact ⟨q.2, has_iff.mpr (.inl q.1)⟩
    · split at q
      · next c => exact ⟨has_iff.mpr (.inr ⟨by omega, by omega⟩), has_iff.mpr (.inr ⟨by omega, by omega⟩)⟩
      · omega
  · rintro ⟨q1, q2⟩
    rcases has_iff.mp q1 with z1 | z1
    · exact .inl (.inl ⟨z1, q2⟩)
    · rcases has_iff.mp q2 with z2 | z2
      · exact .inl (.inr ⟨z2, q1⟩)
      · right
        rw [if_pos ⟨by omega, by omega⟩]
        omega
theorem law_ray {a b : Int} (ha : 0 ≤ a) (hb : 0 ≤ b) : max a b * min 1 (min a b) = if a ≠ 0 ∧ b ≠ 0 then max a b else 0 := by
  by_cases c : a ≠ 0 ∧ b ≠ 0
  · rw [if_pos c, show min 1 (min a b) = 1 by omega, Int.mul_one]
  · rw [if_neg c, show min 1 (min a b) = 0 by omega, Int.mul_zero]
theorem has_lawMeet {a b : Row} (ha : RW a) (hb : RW b) : RW (lawMeetR a b) ∧ ∀ s, has (lawMeetR a b) s = true ↔ has a s = true ∧ has b s = true := by
  have a0 := ha.ray
  have b0 := hb.ray
  unfold lawMeetR
  rw [law_ray a0 b0]
  obtain ⟨h1, h2⟩ := has_tidy (ns := (a.1 ++ b.1).filter fun s => has a s && has b s) (ray := if a.2 ≠ 0 ∧ b.2 ≠ 0 then max a.2 b.2 else 0) (fun s hs => by
    rcases List.mem_append.mp (List.mem_filter.mp hs).1 with q | q
    · exact ha.mem s q
    · exact hb.mem s q) (by split <;> omega)
  refine ⟨h1, fun s => ?_⟩
  rw [h2 s, List.mem_filter, List.mem_append, Bool.and_eq_true]
  constructor
  · rintro (q | q)
    · exact q.2
    · split at q
      · exact ⟨has_iff.mpr (.inr ⟨by omega, by omega⟩), has_iff.mpr (.inr ⟨by omega, by omega⟩)⟩
      · omega
  · rintro ⟨q1, q2⟩
    rcases has_iff.mp q1 with z1 | z1
    · exact .inl ⟨.inl z1, q1, q2⟩
    · rcases has_iff.mp q2 with z2 | z2
      · exact .inl ⟨.inr z2, q1, q2⟩
      · right
        rw [if_pos ⟨by omega, by omega⟩]
        omega
theorem row_some {r : Row} (h : RW r) (n : r ≠ ([], 0)) : ∃ s, has r s = true := by
  obtain ⟨few, ray⟩ := r
  have h0 : 0 ≤ ray := h.ray
  cases few with
  | cons s few => exact ⟨s, has_iff.mpr (.inl (List.mem_cons_self ..))⟩
  | nil =>
    have : ray ≠ 0 := fun z => n (by rw [z])
    exact ⟨ray, has_iff.mpr (.inr ⟨by show 0 < ray; omega, Int.le_refl _⟩)⟩
theorem row_ne {r : Row} {s : Int} (h : has r s = true) : r ≠ ([], 0) := fun e => by rw [e, has_zero] at h; cases h
abbrev rowAt (f : Face) (i : Nat) : Row := f.2.getD i ([], 0)
/-- a face over so many arrangements, of right rows -/
structure FW (n : Nat) (f : Face) : Prop where
  len : f.2.length = (arrs n).length
  rows : ∀ r ∈ f.2, RW r
theorem FW.at_ {n : Nat} {f : Face} (h : FW n f) (i : Nat) : RW (rowAt f i) := by
  unfold rowAt
  rw [List.getD_eq_getElem?_getD]
  cases e : f.2[i]? with
  | none => exact ⟨(fun s hs => by cases hs), Int.le_refl _⟩
  | some r => exact h.rows r (List.mem_of_getElem? e)
theorem zw_at {g : Row → Row → Row} {a b : List Row} {i : Nat} (h : a.length = b.length) (hi : i < a.length) : (List.zipWith g a b).getD i ([], 0) = g (a.getD i ([], 0)) (b.getD i ([], 0)) := by
  have hb : i < b.length := by omega
  simp [List.getD_eq_getElem?_getD, List.getElem?_zipWith, List.getElem?_eq_getElem hi, List.getElem?_eq_getElem hb]
theorem fold_has {n : Nat} (g : Row → Row → Row) (G : Face → Face → Face) (hG : ∀ f h : Face, G f h = (f.1, List.zipWith g f.2 h.2)) (hg : ∀ a b, RW a → RW b → RW (g a b) ∧ ∀ s, has (g a b) s = true ↔ has a s = true ∧ has b s = true) :
    ∀ (fs : List Face) (f : Face), FW n f → (∀ h ∈ fs, FW n h) → FW n (fs.foldl G f) ∧ ∀ i, i < (arrs n).length → ∀ s, has (rowAt (fs.foldl G f) i) s = true ↔ has (rowAt f i) s = true ∧ ∀ h ∈ fs, has (rowAt h i) s = true
  | [], f, hf, _ => ⟨hf, fun i _ s => ⟨fun q => ⟨q, fun h z => by cases z⟩, fun q => q.1⟩⟩
  | h :: fs, f, hf, hs => by
    have hh := hs h (List.mem_cons_self ..)
    have w : FW n (G f h) := by
      rw [hG]
      refine ⟨by show (List.zipWith g f.2 h.2).length = _; rw [List.length_zipWith, hf.len, hh.len]; omega, fun r hr => ?_⟩
      obtain ⟨x, hx, y, hy, rfl⟩ := zipWith_mem hr
      exact (hg x y (hf.rows x hx) (hh.rows y hy)).1
    obtain ⟨h1, h2⟩ := fold_has g G hG hg fs (G f h) w fun z hz => hs z (List.mem_cons_of_mem _ hz)
    refine ⟨h1, fun i hi s => ?_⟩
    rw [List.foldl_cons, h2 i hi s]
    have e : rowAt (G f h) i = g (rowAt f i) (rowAt h i) := by
      rw [hG]
      exact zw_at (by rw [hf.len, hh.len]) (by rw [hf.len]; exact hi)
    rw [e, (hg _ _ (hf.at_ i) (hh.at_ i)).2 s]
    constructor
    · rintro ⟨⟨a, b⟩, c⟩
      refine ⟨a, fun z hz => ?_⟩
      rcases List.mem_cons.mp hz with q | q
      · rw [q]; exact b
      · exact c z q
    · rintro ⟨a, b⟩
      exact ⟨⟨a, b h (List.mem_cons_self ..)⟩, fun z hz => b z (List.mem_cons_of_mem _ hz)⟩
/-- no cell, by what the rows hold -/
theorem noC_of {n : Nat} {f : Face} (h : FW n f) (no : ∀ i, i < (arrs n).length → ∀ s, has (rowAt f i) s = true → False) : noC f = true := by
  unfold noC
  rw [List.all_eq_true]
  intro r hr
  rw [decide_eq_true_eq]
  apply Classical.byContradiction
  intro ne
  obtain ⟨s, hs⟩ := row_some (h.rows r hr) ne
  obtain ⟨i, hi, e⟩ := List.getElem_of_mem hr
  refine no i (by rw [← h.len]; exact hi) s ?_
  unfold rowAt
  rw [List.getD_eq_getElem?_getD, List.getElem?_eq_getElem hi, e]
  exact hs
theorem noC_not {n : Nat} {f : Face} (h : FW n f) {i : Nat} {s : Int} (hi : i < (arrs n).length) (hs : has (rowAt f i) s = true) : noC f = false := by
  cases c : noC f with
  | false => rfl
  | true =>
    exfalso
    unfold noC at c
    rw [List.all_eq_true] at c
    have hi' : i < f.2.length := by rw [h.len]; exact hi
    unfold rowAt at hs
    rw [List.getD_eq_getElem?_getD, List.getElem?_eq_getElem hi'] at hs
    have := c _ (List.getElem_mem hi')
    rw [decide_eq_true_eq] at this
    exact row_ne hs this
/-- what a face lets, by places -/
theorem lets_at {n : Nat} {f : Face} (hn : n ≤ 3) (hf : f.1.length = n) (h : f.2.length = (arrs n).length) {i : Nat} (hi : i < (arrs n).length) : (arrs n)[i] ∈ lets f ↔ rowAt f i ≠ ([], 0) := by
  have hi' : i < f.2.length := by omega
  have er : rowAt f i = f.2[i] := by unfold rowAt; rw [List.getD_eq_getElem?_getD, List.getElem?_eq_getElem hi']; rfl
  unfold lets
  rw [List.mem_filterMap, hf, er]
  constructor
  · rintro ⟨p, hp, e⟩
    obtain ⟨j, hj, rfl⟩ := List.getElem_of_mem hp
    rw [List.getElem_zip] at e
    rw [List.length_zip] at hj
    by_cases c : f.2[j]'(by omega) = ([], 0)
    · rw [if_pos c] at e; cases e
    · rw [if_neg c] at e
      injection e with e
      have nd := (m_one n hn).2.1
      have : j = i := (List.getElem_inj nd).mp e
      subst this
      exact c
  · intro c
    refine ⟨((arrs n)[i], f.2[i]), ?_, by rw [if_neg c]⟩
    have hz : i < ((arrs n).zip f.2).length := by rw [List.length_zip]; omega
    have := List.getElem_mem hz
    rwa [List.getElem_zip] at this
theorem FsOk.rw' {fs : List Face} {ns : List Str} (h : FsOk fs ns) : ∀ f ∈ fs, FW ns.length f := fun f hf => by
  obtain ⟨ok, e⟩ := h.ok f hf
  refine ⟨by rw [ok.len, e], fun r hr => ?_⟩
  obtain ⟨i, hi, rfl⟩ := List.getElem_of_mem hr
  have hl := ok.len
  have : ((arrs f.1.length)[i]'(by omega), f.2[i]) ∈ (arrs f.1.length).zip f.2 := by
    have hz : i < ((arrs f.1.length).zip f.2).length := by rw [List.length_zip]; omega
    have := List.getElem_mem hz
    rwa [List.getElem_zip] at this
  exact (ok.rows _ this).1.rw'
theorem wholeF_rw {ns : List Str} : FW ns.length (wholeF ns) := by
  refine ⟨by simp [wholeF, faceWith], fun r hr => ?_⟩
  obtain ⟨a, _, rfl⟩ := List.mem_map.mp hr
  exact (has_meet (a := ([], 1)) (b := fullR a) ⟨(fun s hs => by cases hs), by decide⟩ ⟨(fun s hs => by cases hs), by unfold fullR; simp; omega⟩).1
/-- no common cell of all arrangements: the faces met have none -/
theorem met_no {fs : List Face} {ns : List Str} (h : FsOk fs ns) (no : ∀ a ∈ arrs ns.length, ∃ f ∈ fs, a ∉ lets f) : noC (metF ns fs) = true := by
  obtain ⟨h1, h2⟩ := fold_has meetR meetF (fun _ _ => rfl) (fun _ _ => has_meet) fs (wholeF ns) wholeF_rw h.rw'
  refine noC_of h1 fun i hi s hs => ?_
  obtain ⟨f, hf, nf⟩ := no _ (List.getElem_mem hi)
  have := ((h2 i hi s).mp hs).2 f hf
  refine nf ((lets_at h.n3 (by rw [(h.ok f hf).2]) (h.rw' f hf).len hi).mpr (row_ne this))
def lawF (fs : List Face) : Face := fs.foldl lawMeetF (fs.getD 0 ([], []))
theorem law_no {fs : List Face} {ns : List Str} (h : FsOk fs ns) (no : ∀ a ∈ arrs ns.length, ∃ f ∈ fs, a ∉ lets f) : noC (lawF fs) = true := by
  have ne : 0 < fs.length := by
    cases e : fs with
    | nil => exact absurd e h.ne
    | cons _ _ => simp
  obtain ⟨h1, h2⟩ := fold_has lawMeetR lawMeetF (fun _ _ => rfl) (fun _ _ => has_lawMeet) fs (fs.getD 0 ([], [])) (h.rw' _ (getD_mem ne)) h.rw'
  refine noC_of h1 fun i hi s hs => ?_
  obtain ⟨f, hf, nf⟩ := no _ (List.getElem_mem hi)
  have := ((h2 i hi s).mp hs).2 f hf
  refine nf ((lets_at h.n3 (by rw [(h.ok f hf).2]) (h.rw' f hf).len hi).mpr (row_ne this))
/-- the answer no is right -/
theorem no_right {fs : List Face} {ns : List Str} (h : FsOk fs ns) {r : Option Nat × List Stp} (e : ExEnd fs ns.length r) (hr : r.1 ≠ none) : ∀ a ∈ arrs ns.length, ∃ f ∈ fs, a ∉ lets f := fun a ha => by
  obtain ⟨kn, k1, _, _, k4, k5⟩ := e
  cases q : r.1 with
  | none => exact absurd q hr
  | some p =>
    rw [q] at k5
    obtain ⟨p1, p2⟩ := k5
    apply Classical.byContradiction
    intro no
    have all : ∀ f ∈ fs, a ∈ lets f := fun f hf => Classical.byContradiction fun z => no ⟨f, hf, z⟩
    have := told_none h.n3 (by rw [(h.ok _ (getD_mem p1)).2]) k1 p2 a (all _ (getD_mem p1))
    rw [k4 a all] at this
    cases this
/-- the answer yes is right of fit faces -/
theorem yes_right {fs : List Face} {ns : List Str} (h : FsOk fs ns) {r : Option Nat × List Stp} (e : ExEnd fs ns.length r) (hr : r.1 = none) (fit : ∀ f ∈ fs, lawFit f = true) : noC (lawF fs) = false := by
  obtain ⟨kn, k1, _, _, _, k5⟩ := e
  rw [hr] at k5
  have ne : 0 < fs.length := by
    cases e : fs with
    | nil => exact absurd e h.ne
    | cons _ _ => simp
  obtain ⟨h1, h2⟩ := fold_has lawMeetR lawMeetF (fun _ _ => rfl) (fun _ _ => has_lawMeet) fs (fs.getD 0 ([], [])) (h.rw' _ (getD_mem ne)) h.rw'
  obtain ⟨i, hi, ei⟩ := List.getElem_of_mem k1
  have big : ∀ f ∈ fs, has (rowAt f i) 20 = true := fun f hf => by
    obtain ⟨ok, ef⟩ := h.ok f hf
    have n3 := h.n3
    have fl : f.1.length = ns.length := by rw [ef]
    have ft := fit f hf
    unfold lawFit at ft
    rw [Bool.and_eq_true, List.all_eq_true, List.all_eq_true] at ft
    obtain ⟨j, hj, ej⟩ := List.getElem_of_mem hf
    have tk := k5 j hj
    rw [List.getD_eq_getElem?_getD, List.getElem?_eq_getElem hj, ej] at tk
    have tk : told f kn = some kn := tk
    have io := (m_one ns.length n3).1
    have ll : lawLets f (iota f.1.length) = lets f := by
      rw [fl, lawLets_eq n3 fl io]
      apply List.filter_eq_self.mpr
      intro a ha
      exact ((m_one ns.length n3).2.2.2 a (fl ▸ lets_sub ha)).1
    rw [ll] at ft
    have inl : kn ∈ lets f := (told_some n3 fl k1 tk).2.2.2 (lets f) (fun a ha => ha) fun a ha b hb => by
      have := ft.1 a ha
      rw [List.all_eq_true] at this
      have := this b hb
      rw [decide_eq_true_eq, (m_fin ns.length n3 a (fl ▸ lets_sub ha) b (fl ▸ lets_sub hb)).2.2.2.1] at this
      exact this
    rw [← ei] at inl
    have nz := (lets_at n3 fl (h.rw' f hf).len hi).mp inl
    have hi' : i < f.2.length := by rw [(h.rw' f hf).len]; exact hi
    have er : rowAt f i = f.2[i] := by unfold rowAt; rw [List.getD_eq_getElem?_getD, List.getElem?_eq_getElem hi']; rfl
    have mr := ft.2 _ (List.getElem_mem hi')
    have : ((arrs f.1.length)[i]'(by rw [fl]; exact hi), f.2[i]) ∈ (arrs f.1.length).zip f.2 := by
      have hz : i < ((arrs f.1.length).zip f.2).length := by rw [List.length_zip, fl]; omega
      have := List.getElem_mem hz
      rwa [List.getElem_zip] at this
    have rv := (ok.rows _ this).1
    have r1 := rv.ray
    rw [er] at nz ⊢
    have key : ∀ ro : Row, ro ≠ ([], 0) → (!(decide (ro.1 ≠ []) && decide (ro.2 = 0))) = true → 0 ≤ ro.2 ∧ ro.2 ≤ 20 → has ro 20 = true := fun ro nz mr r1 => by
      refine has_iff.mpr (.inr ?_)
      by_cases c1 : ro.1 = []
      · have : ro.2 ≠ 0 := fun z => nz (Prod.ext c1 z)
        omega
      · have c2 : ro.2 ≠ 0 := fun z => by rw [z] at mr; simp [c1] at mr
        omega
    exact key _ nz mr r1
  exact noC_not h1 hi ((h2 i hi 20).mpr ⟨big _ (getD_mem ne), big⟩)
end K96
end

section
set_option Elab.async false
set_option linter.all false
set_option maxRecDepth 100000
set_option maxHeartbeats 2000000
namespace K96
open PySem PySem.Spec PyProof.Rows L2 PL
theorem betw_rw {lo hi : Int} (h : 1 ≤ lo) : RW (betw lo hi) := by
  unfold betw
  split
  · exact ⟨(fun s hs => by cases hs), Int.le_refl _⟩
  · unfold fromTo
    split
    · exact ⟨(fun s hs => by cases hs), by show 0 ≤ lo; omega⟩
    · exact (has_tidy (fun s hs => by have := rngI_mem.mp hs; omega) (Int.le_refl _)).1
theorem fullR_rw {a : List Int} : RW (fullR a) := ⟨(fun s hs => by cases hs), by unfold fullR; show 0 ≤ max 1 (ctot a); omega⟩
theorem keepF_rw {ns : List Str} {fcs : List Fact} (h : BndOk fcs) : FW ns.length (keepF ns fcs) := by
  refine ⟨by simp [keepF], fun r hr => ?_⟩
  obtain ⟨a, _, rfl⟩ := List.mem_map.mp hr
  split
  · exact (has_meet (betw_rw h.1) fullR_rw).1
  · exact ⟨(fun s hs => by cases hs), Int.le_refl _⟩
theorem keep_at {ns : List Str} {fcs : List Fact} {i : Nat} (hi : i < (arrs ns.length).length) : rowAt (keepF ns fcs) i = if fitsB ns (arrs ns.length)[i] fcs = true then meetR (betw (bnd fcs).1 (bnd fcs).2) (fullR (arrs ns.length)[i]) else ([], 0) := by
  unfold rowAt keepF
  simp [List.getD_eq_getElem?_getD, List.getElem?_map, List.getElem?_eq_getElem hi]
/-- an end is right where no cell keeps the facts -/
theorem end_by {fs : List Face} {ns : List Str} (h : FsOk fs ns) {p : Nat} (hp : p < fs.length) {fcs : List Fact} (hb : BndOk fcs)
    (no : ∀ i, (hi : i < (arrs ns.length).length) → fitsB ns (arrs ns.length)[i] fcs = true → ∀ s, has (rowAt (fs.getD p ([], [])) i) s = true → has (betw (bnd fcs).1 (bnd fcs).2) s = true → False) : endOk fs p fcs = true := by
  have hm := getD_mem hp
  obtain ⟨ok, e⟩ := h.ok _ hm
  unfold endOk
  rw [e]
  obtain ⟨h1, h2⟩ := fold_has meetR meetF (fun _ _ => rfl) (fun _ _ => has_meet) [keepF ns fcs] (fs.getD p ([], [])) (h.rw' _ hm) (fun z hz => by rw [List.mem_singleton.mp hz]; exact keepF_rw hb)
  refine noC_of h1 fun i hi s hs => ?_
  obtain ⟨q1, q2⟩ := (h2 i hi s).mp hs
  have q3 := q2 _ (List.mem_singleton.mpr rfl)
  rw [keep_at hi] at q3
  by_cases c : fitsB ns (arrs ns.length)[i] fcs = true
  · rw [if_pos c] at q3
    exact no i hi c s q1 (((has_meet (betw_rw hb.1) fullR_rw).2 s).mp q3).1
  · rw [if_neg c, has_zero] at q3
    cases q3
theorem end_lets {fs : List Face} {ns : List Str} (h : FsOk fs ns) {p : Nat} (hp : p < fs.length) {fcs : List Fact} (hb : BndOk fcs) (no : ∀ a ∈ lets (fs.getD p ([], [])), fitsB ns a fcs = true → False) : endOk fs p fcs = true := by
  have hm := getD_mem hp
  exact end_by h hp hb fun i hi hf s hs _ => no _ ((lets_at h.n3 (by rw [(h.ok _ hm).2]) (h.rw' _ hm).len hi).mpr (row_ne hs)) hf
theorem at_idx {ns : List Str} (nd : ns.Nodup) {i : Nat} (hi : i < ns.length) : ns.getD i Str.empty ∈ ns ∧ ns.idxOf (ns.getD i Str.empty) = i := by
  rw [List.getD_eq_getElem?_getD, List.getElem?_eq_getElem hi]
  refine ⟨List.getElem_mem hi, ?_⟩
  have h1 : ns.idxOf ns[i] < ns.length := List.idxOf_lt_length_of_mem (List.getElem_mem hi)
  have h2 : ns[ns.idxOf ns[i]] = ns[i] := List.getElem_idxOf h1
  exact (List.getElem_inj nd).mp h2
theorem fit_like {ns : List Str} (nd : ns.Nodup) {i j : Nat} (hi : i < ns.length) (hj : j < ns.length) (a : List Int) : fitF ns a (.like (ns.getD i Str.empty) (ns.getD j Str.empty)) = decide (a.getD i 0 = a.getD j 0) ∧ fitF ns a (.unlike (ns.getD i Str.empty) (ns.getD j Str.empty)) = !decide (a.getD i 0 = a.getD j 0) := by
  obtain ⟨i1, i2⟩ := at_idx nd hi
  obtain ⟨j1, j2⟩ := at_idx nd hj
  constructor
  · show (if _ then _ else _) = _
    rw [if_pos ⟨i1, j1⟩]; unfold valOf; rw [i2, j2]
  · show (if _ then _ else _) = _
    rw [if_pos ⟨i1, j1⟩]; unfold valOf; rw [i2, j2]
theorem fits_snoc {ns : List Str} {a : List Int} {fcs : List Fact} {x : Fact} : fitsB ns a (fcs ++ [x]) = (fitsB ns a fcs && fitF ns a x) := by simp [fitsB]
theorem ris_lt {ns : List Str} (h : RisS ns) {i j : Nat} (hij : i < j) (hj : j < ns.length) : (ns.getD i Str.empty).cps.toList < (ns.getD j Str.empty).cps.toList := by
  rw [List.getD_eq_getElem?_getD, List.getElem?_eq_getElem (show i < ns.length by omega), List.getD_eq_getElem?_getD, List.getElem?_eq_getElem hj]
  exact List.pairwise_iff_getElem.mp h i j _ _ hij
theorem bnd_like {fcs : List Fact} (h : BndOk fcs) (x y : Str) : BndOk (fcs ++ [.like x y]) ∧ BndOk (fcs ++ [.unlike x y]) := by
  unfold BndOk at *
  rw [bnd_snoc, bnd_snoc]
  exact ⟨h, h⟩
abbrev lkF (L : List Lik) : List Fact := L.map fun l => .like l.1 l.2.1
structure LkOk (fs : List Face) (ns : List Str) (A : List Lik) (l : Lik) : Prop where
  ex : ∃ i j, l.1 = ns.getD i Str.empty ∧ l.2.1 = ns.getD j Str.empty ∧ i < j ∧ j < ns.length ∧ l.2.2 < fs.length ∧ ∀ a ∈ lets (fs.getD l.2.2 ([], [])), fitsB ns a (lkF A) = true → a.getD i 0 = a.getD j 0
structure LInv (fs : List Face) (ns : List Str) (kn : List Int) (s : List Int × List Lik) : Prop where
  len : s.1.length = ns.length
  fit : ∀ a, fitsB ns a (lkF s.2) = true → ∀ i j, i < ns.length → j < ns.length → s.1.getD i 0 = s.1.getD j 0 → a.getD i 0 = a.getD j 0
  good : ∀ A l B, s.2 = A ++ l :: B → LkOk fs ns A l
  kn : ∀ a ∈ arrs ns.length, fitsB ns a (lkF s.2) = true → refB kn a = true
theorem map_at {s : List Int} {f : Int → Int} {i : Nat} (hi : i < s.length) : (s.map f).getD i 0 = f (s.getD i 0) := by
  simp [List.getD_eq_getElem?_getD, List.getElem?_map, List.getElem?_eq_getElem hi]
theorem lk_step {fs : List Face} {ns : List Str} (h : FsOk fs ns) (nd : ns.Nodup) {kn td : List Int} {p : Nat} (hk : kn ∈ arrs ns.length) (hp : p < fs.length) (ht : told (fs.getD p ([], [])) kn = some td) {s : List Int × List Lik} (I : LInv fs ns kn s) {i j : Nat} (hij : i < j) (hj : j < ns.length) :
    LInv fs ns kn (lkStep ns td p s (i, j)) ∧ (td.getD i 0 = td.getD j 0 → (lkStep ns td p s (i, j)).1.getD i 0 = (lkStep ns td p s (i, j)).1.getD j 0) ∧
      (∀ u v, u < ns.length → v < ns.length → s.1.getD u 0 = s.1.getD v 0 → (lkStep ns td p s (i, j)).1.getD u 0 = (lkStep ns td p s (i, j)).1.getD v 0) ∧ (lkStep ns td p s (i, j)).2.length ≤ s.2.length + 1 := by
  have hi : i < ns.length := by omega
  have il : i < s.1.length := by rw [I.len]; exact hi
  have jl : j < s.1.length := by rw [I.len]; exact hj
  unfold lkStep
  by_cases c : td.getD i 0 = td.getD j 0 ∧ s.1.getD i 0 ≠ s.1.getD j 0
  · simp only [c, ne_eq, not_false_eq_true, and_self, if_true]
    have hm := getD_mem hp
    have tds := told_some h.n3 (by rw [(h.ok _ hm).2]) hk ht
    have ext : ∀ a, fitsB ns a (lkF (s.2 ++ [(ns.getD i Str.empty, ns.getD j Str.empty, p)])) = true → fitsB ns a (lkF s.2) = true ∧ a.getD i 0 = a.getD j 0 := fun a ha => by
      rw [show lkF (s.2 ++ [(ns.getD i Str.empty, ns.getD j Str.empty, p)]) = lkF s.2 ++ [.like (ns.getD i Str.empty) (ns.getD j Str.empty)] by simp [lkF], fits_snoc, Bool.and_eq_true, (fit_like nd hi hj a).1, decide_eq_true_eq] at ha
      exact ha
    refine ⟨⟨by simpa using I.len, fun a ha u v hu hv e => ?_, fun A l B e => ?_, fun a ha hf => I.kn a ha (ext a hf).1⟩, fun _ => ?_, fun u v hu hv e => ?_, by simp⟩
    · obtain ⟨f1, f2⟩ := ext a ha
      rw [map_at (by rw [I.len]; exact hu), map_at (by rw [I.len]; exact hv)] at e
      have g := I.fit a f1
      by_cases c1 : s.1.getD u 0 = s.1.getD j 0
      · by_cases c2 : s.1.getD v 0 = s.1.getD j 0
        · exact g u v hu hv (by rw [c1, c2])
        · rw [if_pos c1, if_neg c2] at e
          rw [g u j hu hj c1, ← f2, g i v hi hv e]
      · by_cases c2 : s.1.getD v 0 = s.1.getD j 0
        · rw [if_neg c1, if_pos c2] at e
          rw [g v j hv hj c2, ← f2, g u i hu hi e]
        · rw [if_neg c1, if_neg c2] at e
          exact g u v hu hv e
    · have fr : LkOk fs ns s.2 (ns.getD i Str.empty, ns.getD j Str.empty, p) := ⟨i, j, rfl, rfl, hij, hj, hp, fun a ha hf => by
        have ain : a ∈ arrs ns.length := by have := lets_sub ha; rw [(h.ok _ hm).2] at this; exact this
        have r := tds.2.2.1 a ha (I.kn a ain hf)
        have tl := ((m_one _ h.n3).2.2.2 td tds.1).2.2.2.2.2
        exact m_ref.mp r i j (by omega) (by omega) c.1⟩
      rcases List.append_eq_append_iff.mp e with ⟨C, e1, e2⟩ | ⟨C, e1, e2⟩
      · cases C with
        | nil =>
          rw [List.append_nil] at e1
          injection e2 with e2 e3
          rw [← e2, e1]; exact fr
        | cons x C =>
          have := congrArg List.length e2
          simp at this
      · cases C with
        | nil =>
          rw [List.append_nil] at e1
          injection e2 with e2 e3
          rw [e2, ← e1]; exact fr
        | cons x C =>
          rw [List.cons_append] at e2
          injection e2 with e2 e3
          exact I.good A l C (by rw [e1, e2])
    · rw [map_at il, map_at jl]
      by_cases c1 : s.1.getD i 0 = s.1.getD j 0
      · exact absurd c1 c.2
      · rw [if_neg c1, if_pos rfl]
    · rw [map_at (by rw [I.len]; exact hu), map_at (by rw [I.len]; exact hv), e]
  · rw [if_neg c]
    refine ⟨I, fun e => Classical.byContradiction fun z => c ⟨e, z⟩, fun _ _ _ _ e => e, by omega⟩
theorem lk_row {fs : List Face} {ns : List Str} (h : FsOk fs ns) (nd : ns.Nodup) {kn td : List Int} {p : Nat} (hk : kn ∈ arrs ns.length) (hp : p < fs.length) (ht : told (fs.getD p ([], [])) kn = some td) {i : Nat} : ∀ (js : List Nat) (s : List Int × List Lik), (∀ j ∈ js, i < j ∧ j < ns.length) → LInv fs ns kn s →
    LInv fs ns kn (js.foldl (fun s j => lkStep ns td p s (i, j)) s) ∧ (∀ j ∈ js, td.getD i 0 = td.getD j 0 → (js.foldl (fun s j => lkStep ns td p s (i, j)) s).1.getD i 0 = (js.foldl (fun s j => lkStep ns td p s (i, j)) s).1.getD j 0) ∧
      (∀ u v, u < ns.length → v < ns.length → s.1.getD u 0 = s.1.getD v 0 → (js.foldl (fun s j => lkStep ns td p s (i, j)) s).1.getD u 0 = (js.foldl (fun s j => lkStep ns td p s (i, j)) s).1.getD v 0) ∧ (js.foldl (fun s j => lkStep ns td p s (i, j)) s).2.length ≤ s.2.length + js.length
  | [], s, _, I => ⟨I, (fun j hj => by cases hj), fun _ _ _ _ e => e, by simp⟩
  | j :: js, s, hj, I => by
    obtain ⟨a1, a2⟩ := hj j (List.mem_cons_self ..)
    obtain ⟨s1, s2, s3, s4⟩ := lk_step h nd hk hp ht I a1 a2
    obtain ⟨r1, r2, r3, r4⟩ := lk_row h nd hk hp ht js _ (fun x hx => hj x (List.mem_cons_of_mem _ hx)) s1
    rw [List.foldl_cons]
    refine ⟨r1, fun x hx e => ?_, fun u v hu hv e => r3 u v hu hv (s3 u v hu hv e), by rw [List.length_cons]; omega⟩
    rcases List.mem_cons.mp hx with q | q
    · subst q; exact r3 _ _ (by omega) a2 (s2 e)
    · exact r2 x q e
theorem lk_one {fs : List Face} {ns : List Str} (h : FsOk fs ns) (nd : ns.Nodup) {kn td : List Int} {p : Nat} (hk : kn ∈ arrs ns.length) (hp : p < fs.length) (ht : told (fs.getD p ([], [])) kn = some td) : ∀ (is : List Nat) (s : List Int × List Lik), (∀ i ∈ is, i < ns.length) → LInv fs ns kn s →
    LInv fs ns kn (is.foldl (fun s i => lkRow ns td p i s) s) ∧ (∀ i ∈ is, ∀ j, i < j → j < ns.length → td.getD i 0 = td.getD j 0 → (is.foldl (fun s i => lkRow ns td p i s) s).1.getD i 0 = (is.foldl (fun s i => lkRow ns td p i s) s).1.getD j 0) ∧
      (∀ u v, u < ns.length → v < ns.length → s.1.getD u 0 = s.1.getD v 0 → (is.foldl (fun s i => lkRow ns td p i s) s).1.getD u 0 = (is.foldl (fun s i => lkRow ns td p i s) s).1.getD v 0) ∧ (is.foldl (fun s i => lkRow ns td p i s) s).2.length ≤ s.2.length + is.length * 3
  | [], s, _, I => ⟨I, (fun i hi => by cases hi), fun _ _ _ _ e => e, by simp⟩
  | i :: is, s, hi, I => by
    have n3 := h.n3
    have bl : (behind i ns.length).length ≤ 3 := by simp [behind]; omega
    obtain ⟨s1, s2, s3, s4⟩ := lk_row h nd hk hp ht (i := i) (behind i ns.length) s (fun j hj => behind_mem hj) I
    obtain ⟨r1, r2, r3, r4⟩ := lk_one h nd hk hp ht is _ (fun x hx => hi x (List.mem_cons_of_mem _ hx)) s1
    rw [List.foldl_cons]
    refine ⟨r1, fun x hx j xj jn e => ?_, fun u v hu hv e => r3 u v hu hv (s3 u v hu hv e), by rw [List.length_cons]; show (is.foldl (fun s i => lkRow ns td p i s) ((behind i ns.length).foldl (fun s j => lkStep ns td p s (i, j)) s)).2.length ≤ _; omega⟩
    rcases List.mem_cons.mp hx with q | q
    · subst q
      refine r3 _ _ (by omega) jn (s2 j ?_ e)
      exact List.mem_map.mpr ⟨j - (x + 1), List.mem_range.mpr (by omega), by omega⟩
    · exact r2 x q j xj jn e
theorem lk_all {fs : List Face} {ns : List Str} (h : FsOk fs ns) (nd : ns.Nodup) : ∀ (st : List Stp) (kn kn' : List Int) (s : List Int × List Lik), kn ∈ arrs ns.length → ChainOk fs kn st kn' → LInv fs ns kn s → LInv fs ns kn' (st.foldl (lkOne ns) s) ∧ (st.foldl (lkOne ns) s).2.length ≤ s.2.length + st.length * 9
  | [], kn, kn', s, _, c, I => by
    have c : kn = kn' := c
    subst c
    exact ⟨I, by simp⟩
  | (p, td) :: st, kn, kn', s, hk, ⟨hp, ht, c⟩, I => by
    have n3 := h.n3
    have hm := getD_mem hp
    obtain ⟨t1, t2, t3, _⟩ := told_some n3 (by rw [(h.ok _ hm).2]) hk ht
    obtain ⟨r1, r2, r3, r4⟩ := lk_one h nd hk hp ht (List.range ns.length) s (fun i hi => List.mem_range.mp hi) I
    have I' : LInv fs ns td (lkOne ns s (p, td)) := ⟨r1.len, r1.fit, r1.good, fun a ha hf => by
      rw [m_ref]
      have tl := ((m_one _ n3).2.2.2 td t1).2.2.2.2.2
      have key : ∀ i j, i < j → j < ns.length → td.getD i 0 = td.getD j 0 → a.getD i 0 = a.getD j 0 := fun i j hij hj e => r1.fit a hf i j (by omega) hj (r2 i (List.mem_range.mpr (by omega)) j hij hj e)
      intro i j hi hj e
      rcases Nat.lt_trichotomy i j with q | q | q
      · exact key i j q (by omega) e
      · rw [q]
      · exact (key j i q (by omega) e.symm).symm⟩
    obtain ⟨g1, g2⟩ := lk_all h nd st td kn' _ t1 c I'
    rw [List.foldl_cons]
    refine ⟨g1, ?_⟩
    have r4' : (lkOne ns s (p, td)).2.length ≤ s.2.length + 9 := by
      rw [List.length_range] at r4
      show ((List.range ns.length).foldl (fun s i => lkRow ns td p i s) s).2.length ≤ _
      omega
    rw [List.length_cons]
    omega
theorem likes_inv {fs : List Face} {ns : List Str} (h : FsOk fs ns) (nd : ns.Nodup) {st : List Stp} {kn : List Int} (c : ChainOk fs (iota ns.length) st kn) : (∀ A l B, likes ns st = A ++ l :: B → LkOk fs ns A l) ∧ (∀ a ∈ arrs ns.length, fitsB ns a (lkF (likes ns st)) = true → refB kn a = true) ∧ (likes ns st).length ≤ st.length * 9 := by
  obtain ⟨i1, _, _, i3⟩ := m_one ns.length h.n3
  obtain ⟨g1, g2⟩ := lk_all h nd st (iota ns.length) kn (iota ns.length, []) i1 c ⟨by simp [iota], fun a _ i j hi hj e => by
    have : ∀ k, k < ns.length → (iota ns.length).getD k 0 = (k : Int) := fun k hk => by simp [iota, hk]
    rw [this i hi, this j hj] at e
    have : i = j := by omega
    rw [this], fun A l B e => by simp at e, fun a ha _ => (i3 a ha).1⟩
  exact ⟨g1.good, g1.kn, by unfold likes; simpa using g2⟩
def lkTree (p : Nat) (L : List Lik) : Tree := L.foldr (fun l t => .spl (.same l.1 l.2.1) t (.fin l.2.2)) (.fin p)
theorem lk_ends (p : Nat) : ∀ L, ends (lkTree p L) = L.length + 1 ∧ nodes (lkTree p L) = 2 * L.length + 1
  | [] => ⟨rfl, rfl⟩
  | l :: L => by
    obtain ⟨a, b⟩ := lk_ends p L
    have e1 : ends (lkTree p (l :: L)) = ends (lkTree p L) + 1 := rfl
    have e2 : nodes (lkTree p (l :: L)) = 1 + nodes (lkTree p L) + 1 := rfl
    rw [e1, e2, a, b, List.length_cons]
    exact ⟨by omega, by omega⟩
theorem lk_judge {fs : List Face} {ns : List Str} (h : FsOk fs ns) (nd : ns.Nodup) (ris : RisS ns) {L : List Lik} {p : Nat} (hp : p < fs.length) (good : ∀ A l B, L = A ++ l :: B → LkOk fs ns A l) (last : ∀ a ∈ lets (fs.getD p ([], [])), fitsB ns a (lkF L) = true → False) :
    ∀ (B A : List Lik), L = A ++ B → BndOk (lkF A) → TOk ns fs.length (lkTree p B) ∧ judge fs (lkTree p B) (lkF A) = true
  | [], A, e, hb => by
    rw [List.append_nil] at e
    subst e
    exact ⟨hp, end_lets h hp hb last⟩
  | l :: B, A, e, hb => by
    obtain ⟨i, j, e1, e2, hij, hj, h5, h6⟩ := (good A l B e).ex
    have hi : i < ns.length := by omega
    have eA : lkF A ++ [.like l.1 l.2.1] = lkF (A ++ [l]) := by simp [lkF]
    obtain ⟨b1, b2⟩ := bnd_like hb l.1 l.2.1
    obtain ⟨g1, g2⟩ := lk_judge h nd ris hp good last B (A ++ [l]) (by simpa using e) (by rw [← eA]; exact b1)
    refine ⟨⟨⟨by rw [e1]; exact (at_idx nd hi).1, by rw [e2]; exact (at_idx nd hj).1, by rw [e1, e2]; exact ris_lt ris hij hj⟩, g1, h5⟩, ?_⟩
    show (judge fs (lkTree p B) (lkF A ++ [.like l.1 l.2.1]) && endOk fs l.2.2 (lkF A ++ [.unlike l.1 l.2.1])) = true
    rw [eA, g2, Bool.true_and]
    refine end_lets h h5 b2 fun a ha hf => ?_
    rw [fits_snoc, Bool.and_eq_true, e1, e2, (fit_like nd hi hj a).2] at hf
    rw [h6 a ha hf.1] at hf
    simp at hf
/-- the tree of the likes is accepted -/
theorem likes_tree {fs : List Face} {ns : List Str} (h : FsOk fs ns) {st : List Stp} {p : Nat} (e : ExEnd fs ns.length (some p, st)) : p < fs.length ∧ st.length ≤ 3 ∧ (likes ns st).length ≤ 27 ∧ TOk ns fs.length (lkTree p (likes ns st)) ∧ judge fs (lkTree p (likes ns st)) [] = true := by
  obtain ⟨kn, k1, k2, k3, k4, k5, k6⟩ := e
  obtain ⟨f, r, ef, en⟩ := h.at0
  have n3 := h.n3
  have ris : RisS ns := by
    have := (h.ok f (by rw [ef]; exact List.mem_cons_self ..)).1.ris
    rwa [en] at this
  have nd := ris.nodup
  obtain ⟨g1, g2, g3⟩ := likes_inv h nd k2
  have k3 : st.length ≤ ns.length := k3
  have g3 : (likes ns st).length ≤ st.length * 9 := g3
  refine ⟨k5, by omega, by omega, ?_⟩
  have := lk_judge h nd ris (L := likes ns st) k5 g1 (fun a ha hf => by
    have hm := getD_mem k5
    have ain : a ∈ arrs ns.length := by have := lets_sub ha; rw [(h.ok _ hm).2] at this; exact this
    have r := g2 a ain hf
    rw [told_none n3 (by rw [(h.ok _ hm).2]) k1 k6 a ha] at r
    cases r) (likes ns st) [] rfl .nil
  exact this
end K96
end

section
set_option Elab.async false
set_option linter.all false
set_option maxRecDepth 100000
set_option maxHeartbeats 2000000
namespace K96
open PySem PySem.Spec PyProof.Rows L2 PL
/-- rows of small sizes -/
def Six (fs : List Face) : Prop := ∀ f ∈ fs, ∀ r ∈ f.2, (∀ s ∈ r.1, s ≤ 6) ∧ r.2 ≤ 6
theorem foldmax_le : ∀ (xs : List Int) (d c : Int), d ≤ c → (∀ s ∈ xs, s ≤ c) → xs.foldl max d ≤ c
  | [], _, _, h, _ => h
  | x :: xs, d, c, h, hx => by
    rw [List.foldl_cons]
    exact foldmax_le xs (max d x) c (by have := hx x (List.mem_cons_self ..); omega) fun s hs => hx s (List.mem_cons_of_mem _ hs)
theorem foldmax_ge : ∀ (xs : List Int) (d : Int), d ≤ xs.foldl max d ∧ ∀ s ∈ xs, s ≤ xs.foldl max d
  | [], d => ⟨Int.le_refl _, fun s hs => by cases hs⟩
  | x :: xs, d => by
    rw [List.foldl_cons]
    obtain ⟨h1, h2⟩ := foldmax_ge xs (max d x)
    refine ⟨by omega, fun s hs => ?_⟩
    rcases List.mem_cons.mp hs with e | e
    · rw [e]; omega
    · exact h2 s e
theorem maxOf_b {xs : List Int} {d c : Int} (h : d ≤ c) (hx : ∀ s ∈ xs, s ≤ c) : maxOf d xs ≤ c ∧ ∀ s ∈ xs, s ≤ maxOf d xs := by
  cases xs with
  | nil => exact ⟨h, fun s hs => by cases hs⟩
  | cons x xs =>
    refine ⟨foldmax_le xs x c (hx x (List.mem_cons_self ..)) fun s hs => hx s (List.mem_cons_of_mem _ hs), fun s hs => ?_⟩
    obtain ⟨h1, h2⟩ := foldmax_ge xs x
    rcases List.mem_cons.mp hs with e | e
    · rw [e]; exact h1
    · exact h2 s e
theorem gmF_b : ∀ (rs : List Row) (m : Int), m ≤ 6 → (∀ r ∈ rs, (∀ s ∈ r.1, s ≤ 6) ∧ r.2 ≤ 6) → rs.foldl gmR m ≤ 6 ∧ m ≤ rs.foldl gmR m ∧ ∀ r ∈ rs, ∀ s ∈ r.1, s ≤ rs.foldl gmR m
  | [], m, h, _ => ⟨h, Int.le_refl _, fun r hr => by cases hr⟩
  | r :: rs, m, h, hr => by
    obtain ⟨a, b⟩ := hr r (List.mem_cons_self ..)
    obtain ⟨c, d⟩ := maxOf_b (d := 0) (c := 6) (by omega) a
    have e : gmR m r = max m (max r.2 (maxOf 0 r.1)) := rfl
    obtain ⟨q1, q2, q3⟩ := gmF_b rs (gmR m r) (by omega) fun x hx => hr x (List.mem_cons_of_mem _ hx)
    rw [List.foldl_cons]
    refine ⟨q1, by omega, fun x hx s hs => ?_⟩
    rcases List.mem_cons.mp hx with z | z
    · subst z
      have := d s hs
      omega
    · exact q3 x z s hs
theorem gm_b : ∀ (fs : List Face) (m : Int), m ≤ 6 → Six fs → fs.foldl gmF m ≤ 6 ∧ m ≤ fs.foldl gmF m ∧ ∀ f ∈ fs, ∀ r ∈ f.2, ∀ s ∈ r.1, s ≤ fs.foldl gmF m
  | [], m, h, _ => ⟨h, Int.le_refl _, fun f hf => by cases hf⟩
  | f :: fs, m, h, hs => by
    obtain ⟨a, b, c⟩ := gmF_b f.2 m h (hs f (List.mem_cons_self ..))
    obtain ⟨q1, q2, q3⟩ := gm_b fs (gmF m f) a fun x hx => hs x (List.mem_cons_of_mem _ hx)
    have e : gmF m f = f.2.foldl gmR m := rfl
    rw [List.foldl_cons]
    refine ⟨q1, by omega, fun x hx r hr s hss => ?_⟩
    rcases List.mem_cons.mp hx with z | z
    · subst z
      have := c r hr s hss
      omega
    · exact q3 x z r hr s hss
theorem gmark_b {fs : List Face} (h : Six fs) : 1 ≤ gmark fs ∧ gmark fs ≤ 6 ∧ ∀ f ∈ fs, ∀ r ∈ f.2, ∀ s ∈ r.1, s ≤ gmark fs := by
  obtain ⟨a, b, c⟩ := gm_b fs 1 (by omega) h
  unfold gmark
  refine ⟨by omega, by omega, fun f hf r hr s hs => ?_⟩
  have := c f hf r hr s hs
  omega
structure Good (n : Nat) (mk : Int) (s : Stt) : Prop where
  sub : List.Sublist s.1 (arrs n)
  lo : 1 ≤ s.2.1 ∧ s.2.1 ≤ mk + 1
  hi : 0 ≤ s.2.2 ∧ s.2.2 ≤ mk
  le : s.2.2 ≠ 0 → s.2.1 ≤ s.2.2
section
variable {n : Nat} {ns : List Str} {mk : Int} {s : Stt} {fs : List Face}
theorem arrs_few (hn : n ≤ 3) : (arrs n).length ≤ 5 := by
  have : ∀ n ≤ 3, (arrs n).length ≤ 5 := by decide +kernel
  exact this n hn
theorem Good.mem (g : Good n mk s) {a : List Int} (h : a ∈ s.1) : a ∈ arrs n := g.sub.subset h
theorem Good.few (g : Good n mk s) (hn : n ≤ 3) : s.1.length ≤ 5 := Nat.le_trans g.sub.length_le (arrs_few hn)
theorem Good.v (g : Good ns.length mk s) (h3 : ns.length ≤ 3) (m1 : 1 ≤ mk ∧ mk ≤ 6) : StV s ns mk := by
  have := g.few h3
  have := g.lo
  have := g.hi
  exact ⟨by omega, by omega, fun a ha => ((m_one _ h3).2.2.2 a (g.mem ha)).2.2.2.2.2, by omega, by omega, by omega, by omega, by omega, by omega⟩
/-- the two kinds of parts -/
theorem part_cases {p : Prt} (h : p ∈ parts s ns mk) : (∃ i j, i < j ∧ j < ns.length ∧ likeA s i j ≠ [] ∧ unlikeA s i j ≠ [] ∧ p = (.same (ns.getD i Str.empty) (ns.getD j Str.empty), (likeA s i j, s.2.1, s.2.2), (unlikeA s i j, s.2.1, s.2.2))) ∨
    ∃ z, s.2.1 ≤ z ∧ z ≤ lastOf s mk ∧ p = (.size z, (s.1, s.2.1, z), (s.1, z + 1, s.2.2)) := by
  rcases List.mem_append.mp h with h | h
  · left
    obtain ⟨i, hi, h⟩ := List.mem_flatMap.mp h
    obtain ⟨j, hj, h⟩ := List.mem_filterMap.mp h
    obtain ⟨j1, j2⟩ := behind_mem hj
    unfold npart1 at h
    split at h
    · next c => cases h; exact ⟨i, j, j1, j2, c.1, c.2, rfl⟩
    · cases h
  · right
    obtain ⟨z, hz, rfl⟩ := List.mem_map.mp h
    have := rngI_mem.mp hz
    exact ⟨z, this.1, by omega, rfl⟩
theorem part_same {i j : Nat} (hij : i < j) (hj : j < ns.length) (h1 : likeA s i j ≠ []) (h2 : unlikeA s i j ≠ []) : ((.same (ns.getD i Str.empty) (ns.getD j Str.empty), (likeA s i j, s.2.1, s.2.2), (unlikeA s i j, s.2.1, s.2.2)) : Prt) ∈ parts s ns mk := by
  refine List.mem_append_left _ (List.mem_flatMap.mpr ⟨i, List.mem_range.mpr (by omega), List.mem_filterMap.mpr ⟨j, List.mem_map.mpr ⟨j - (i + 1), List.mem_range.mpr (by omega), by omega⟩, ?_⟩⟩)
  unfold npart1
  rw [if_pos ⟨h1, h2⟩]
theorem last_b (g : Good n mk s) (m1 : 1 ≤ mk) {z : Int} (hz : z ≤ lastOf s mk) : z ≤ mk ∧ (s.2.2 ≠ 0 → z < s.2.2) := by
  have := g.hi
  unfold lastOf at hz
  split at hz <;> omega
theorem filt_lt {α : Type} {p : α → Bool} : ∀ {l : List α}, (l.filter fun x => !p x) ≠ [] → (l.filter p).length < l.length
  | [], h => absurd rfl h
  | x :: l, h => by
    by_cases c : p x = true
    · rw [List.filter_cons_of_pos c, List.length_cons, List.length_cons]
      have := filt_lt (p := p) (l := l) (by
        rw [List.filter_cons_of_neg (by simp [c])] at h
        exact h)
      omega
    · rw [List.filter_cons_of_neg c, List.length_cons]
      have := List.length_filter_le p l
      omega
theorem filt_lt' {α : Type} {p : α → Bool} {l : List α} (h : (l.filter p) ≠ []) : (l.filter fun x => !p x).length < l.length := by
  refine filt_lt (p := fun x => !p x) ?_
  have : (fun x => !!p x) = p := funext fun x => Bool.not_not _
  rw [this]
  exact h
theorem kids (g : Good ns.length mk s) (m1 : 1 ≤ mk) {p : Prt} (hp : p ∈ parts s ns mk) : (Good ns.length mk p.2.1 ∧ wid p.2.1 mk < wid s mk) ∧ Good ns.length mk p.2.2 ∧ wid p.2.2 mk < wid s mk := by
  have lo := g.lo
  have hi := g.hi
  rcases part_cases hp with ⟨i, j, hij, hj, c1, c2, rfl⟩ | ⟨z, z1, z2, rfl⟩
  · have l1 : (likeA s i j).length < s.1.length := filt_lt c2
    have l2 : (unlikeA s i j).length < s.1.length := filt_lt' c1
    refine ⟨⟨⟨List.filter_sublist.trans g.sub, g.lo, g.hi, g.le⟩, ?_⟩, ⟨List.filter_sublist.trans g.sub, g.lo, g.hi, g.le⟩, ?_⟩
    · unfold wid; dsimp only; omega
    · unfold wid; dsimp only; omega
  · obtain ⟨b1, b2⟩ := last_b g m1 z2
    refine ⟨⟨⟨g.sub, g.lo, by dsimp only; omega, fun _ => z1⟩, ?_⟩, ⟨g.sub, by dsimp only; omega, g.hi, fun q => by have := b2 q; dsimp only; omega⟩, ?_⟩
    · unfold wid; dsimp only
      split <;> split <;> omega
    · unfold wid; dsimp only
      omega
theorem wid_b (g : Good n mk s) (hn : n ≤ 3) (m1 : 1 ≤ mk ∧ mk ≤ 6) : 0 ≤ wid s mk ∧ wid s mk ≤ 20 := by
  have := g.few hn
  have := g.lo
  have := g.hi
  have := g.le
  unfold wid
  split <;> omega
def subs {α : Type} : List α → List (List α)
  | [] => [[]]
  | x :: xs => subs xs ++ (subs xs).map (x :: ·)
theorem subs_len {α : Type} : ∀ l : List α, (subs l).length = 2 ^ l.length
  | [] => rfl
  | x :: xs => by rw [subs, List.length_append, List.length_map, subs_len xs, List.length_cons, Nat.pow_succ]; omega
theorem sub_mem {α : Type} {a b : List α} (h : List.Sublist a b) : a ∈ subs b := by
  induction h with
  | slnil => exact List.mem_singleton.mpr rfl
  | cons x _ ih => exact List.mem_append_left _ ih
  | cons_cons x _ ih => exact List.mem_append_right _ (List.mem_map.mpr ⟨_, ih, rfl⟩)
theorem nodup_le {α : Type} [DecidableEq α] : ∀ {l L : List α}, l.Nodup → (∀ x ∈ l, x ∈ L) → l.length ≤ L.length
  | [], _, _, _ => Nat.zero_le _
  | x :: l, L, nd, h => by
    rw [List.nodup_cons] at nd
    have hx := h x (List.mem_cons_self ..)
    have := nodup_le (l := l) (L := L.erase x) nd.2 fun y hy => by
      refine (List.mem_erase_of_ne ?_).mpr (h y (List.mem_cons_of_mem _ hy))
      intro e
      subst e
      exact nd.1 hy
    rw [List.length_erase_of_mem hx] at this
    have := List.length_pos_of_mem hx
    rw [List.length_cons]
    omega
theorem good_few (hn : n ≤ 3) (m1 : 1 ≤ mk ∧ mk ≤ 6) {l : List Stt} (nd : l.Nodup) (h : ∀ s ∈ l, Good n mk s) : l.length ≤ 2000 := by
  have := nodup_le (L := (subs (arrs n)).flatMap fun a => (rngI 1 8).flatMap fun i => (rngI 0 7).map fun j => ((a, i, j) : Stt)) nd fun s hs => by
    have g := h s hs
    have := g.lo
    have := g.hi
    exact List.mem_flatMap.mpr ⟨s.1, sub_mem g.sub, List.mem_flatMap.mpr ⟨s.2.1, rngI_mem.mpr (by omega), List.mem_map.mpr ⟨s.2.2, rngI_mem.mpr (by omega), rfl⟩⟩⟩
  have f1 := flat_len (fun a : List (List Int) => (rngI 1 8).flatMap fun i => (rngI 0 7).map fun j => ((a, i, j) : Stt)) 49 (subs (arrs n)) fun a _ => by
    have f2 := flat_len (fun i : Int => (rngI 0 7).map fun j => ((a, i, j) : Stt)) 7 (rngI 1 8) fun i _ => by
      rw [List.length_map, rngI_len]; decide
    rw [rngI_len] at f2
    exact Nat.le_trans f2 (by decide)
  have f3 : (subs (arrs n)).length ≤ 32 := by
    rw [subs_len]
    exact Nat.le_trans (Nat.pow_le_pow_right (by decide) (arrs_few hn)) (by decide)
  omega
theorem closed (h3 : ns.length ≤ 3) (m1 : 1 ≤ mk ∧ mk ≤ 6) : Closed ns mk (Good ns.length mk) := by
  refine ⟨fun s g => g.v h3 m1, fun s g p hp => ⟨(kids g m1.1 hp).1.1, (kids g m1.1 hp).2.1⟩, fun l nd h => good_few h3 m1 nd h, fun s g => ?_⟩
  have f1 : (nparts s ns).length ≤ 9 := by
    have := flat_len (fun i => (behind i ns.length).filterMap fun j => npart1 s ns i j) 3 (List.range ns.length) fun i hi => by
      have h1 : ((behind i ns.length).filterMap fun j => npart1 s ns i j).length ≤ _ := List.length_filterMap_le (npart1 s ns i) (behind i ns.length)
      have : (behind i ns.length).length ≤ 3 := by simp [behind]; omega
      omega
    rw [List.length_range] at this
    unfold nparts
    omega
  have f2 : (sparts s mk).length ≤ 7 := by
    have := g.lo
    have := g.hi
    unfold sparts
    rw [List.length_map, rngI_len]
    unfold lastOf
    split <;> omega
  unfold parts
  rw [List.length_append]
  omega
theorem start_good (m1 : 1 ≤ mk) : Good n mk (arrs n, 1, 0) := ⟨.refl _, ⟨by dsimp only; omega, by dsimp only; omega⟩, ⟨by dsimp only; omega, by dsimp only; omega⟩, fun q => absurd rfl q⟩
/-- all states are found -/
theorem all_ex (h3 : ns.length ≤ 3) (m1 : 1 ≤ mk ∧ mk ≤ 6) : ∀ (M : Nat) (w found : List Stt), (2000 - found.length) * 50 + w.length ≤ M → (∀ s ∈ w, Good ns.length mk s) → (∀ s ∈ found, Good ns.length mk s) → found.Nodup →
    (∀ s ∈ found, ender fs s = -1 → ∀ p ∈ parts s ns mk, (p.2.1 ∈ found ∨ p.2.1 ∈ w) ∧ (p.2.2 ∈ found ∨ p.2.2 ∈ w)) →
    ∃ N st, allGo fs ns mk N w found = some st ∧ (∀ s ∈ w, s ∈ st) ∧ (∀ s ∈ found, s ∈ st) ∧ st.Nodup ∧ (∀ s ∈ st, Good ns.length mk s) ∧ ∀ s ∈ st, ender fs s = -1 → ∀ p ∈ parts s ns mk, p.2.1 ∈ st ∧ p.2.2 ∈ st
  | M, [], found, hM, gw, gf, nd, cl => ⟨1, found, rfl, (fun s hs => by cases hs), fun s hs => hs, nd, gf, fun s hs e p hp => by
      obtain ⟨a, b⟩ := cl s hs e p hp
      exact ⟨a.resolve_right (by simp), b.resolve_right (by simp)⟩⟩
  | 0, s :: w, found, hM, gw, gf, nd, cl => by rw [List.length_cons] at hM; omega
  | M + 1, s :: w, found, hM, gw, gf, nd, cl => by
    rw [List.length_cons] at hM
    have gs := gw s (List.mem_cons_self ..)
    have gw' : ∀ t ∈ w, Good ns.length mk t := fun t ht => gw t (List.mem_cons_of_mem _ ht)
    by_cases c1 : s ∈ found
    · obtain ⟨N, st, e, a, b, c⟩ := all_ex h3 m1 M w found (by omega) gw' gf nd fun t ht e p hp => by
        obtain ⟨q1, q2⟩ := cl t ht e p hp
        refine ⟨q1.elim .inl fun z => ?_, q2.elim .inl fun z => ?_⟩
        · rcases List.mem_cons.mp z with z | z
          · rw [z]; exact .inl c1
          · exact .inr z
        · rcases List.mem_cons.mp z with z | z
          · rw [z]; exact .inl c1
          · exact .inr z
      refine ⟨N + 1, st, by rw [allGo, if_pos c1]; exact e, fun t ht => ?_, b, c⟩
      rcases List.mem_cons.mp ht with z | z
      · rw [z]; exact b s c1
      · exact a t z
    · have nd' : (found ++ [s]).Nodup := by
        rw [List.nodup_append]
        refine ⟨nd, by simp, fun x hx y hy e => ?_⟩
        rw [List.mem_singleton.mp hy] at e
        subst e
        exact c1 hx
      have gf' : ∀ t ∈ found ++ [s], Good ns.length mk t := fun t ht => by
        rcases List.mem_append.mp ht with q | q
        · exact gf t q
        · rw [List.mem_singleton.mp q]; exact gs
      have fb := good_few h3 m1 nd' gf'
      rw [List.length_append] at fb
      simp only [List.length_cons, List.length_nil] at fb
      have fl : (found ++ [s]).length = found.length + 1 := by simp
      by_cases c2 : ender fs s = -1
      · have pk := (closed (ns := ns) h3 m1).ps s gs
        have pl := flat_len (fun p : Prt => [p.2.1, p.2.2]) 2 (parts s ns mk) (fun x _ => by simp)
        have pm : ∀ t, t ∈ push (parts s ns mk) ↔ ∃ p ∈ parts s ns mk, t = p.2.1 ∨ t = p.2.2 := fun t => by
          unfold push
          rw [List.mem_reverse, List.mem_flatMap]
          constructor
          · rintro ⟨p, hp, q⟩
            exact ⟨p, hp, by simpa using q⟩
          · rintro ⟨p, hp, q⟩
            exact ⟨p, hp, by simpa using q⟩
        obtain ⟨N, st, e, a, b, c⟩ := all_ex h3 m1 M (push (parts s ns mk) ++ w) (found ++ [s]) (by
            rw [fl, List.length_append]
            unfold push
            rw [List.length_reverse]
            omega) (fun t ht => by
            rcases List.mem_append.mp ht with q | q
            · obtain ⟨p, hp, q⟩ := (pm t).mp q
              rcases q with q | q
              · rw [q]; exact (kids gs m1.1 hp).1.1
              · rw [q]; exact (kids gs m1.1 hp).2.1
            · exact gw' t q) gf' nd' fun t ht e p hp => by
          rcases List.mem_append.mp ht with q | q
          · obtain ⟨q1, q2⟩ := cl t q e p hp
            have mv : ∀ x, (x ∈ found ∨ x ∈ s :: w) → x ∈ found ++ [s] ∨ x ∈ push (parts s ns mk) ++ w := fun x hx => by
              rcases hx with z | z
              · exact .inl (List.mem_append_left _ z)
              · rcases List.mem_cons.mp z with z | z
                · rw [z]; exact .inl (List.mem_append_right _ (List.mem_singleton.mpr rfl))
                · exact .inr (List.mem_append_right _ z)
            exact ⟨mv _ q1, mv _ q2⟩
          · rw [List.mem_singleton.mp q] at hp
            exact ⟨.inr (List.mem_append_left _ ((pm _).mpr ⟨p, hp, .inl rfl⟩)), .inr (List.mem_append_left _ ((pm _).mpr ⟨p, hp, .inr rfl⟩))⟩
        refine ⟨N + 1, st, by rw [allGo, if_neg c1, if_pos c2]; exact e, fun t ht => ?_, fun t ht => b t (List.mem_append_left _ ht), c⟩
        rcases List.mem_cons.mp ht with z | z
        · rw [z]; exact b s (List.mem_append_right _ (List.mem_singleton.mpr rfl))
        · exact a t (List.mem_append_right _ z)
      · obtain ⟨N, st, e, a, b, c⟩ := all_ex h3 m1 M w (found ++ [s]) (by rw [fl]; omega) gw' gf' nd' fun t ht e p hp => by
          rcases List.mem_append.mp ht with q | q
          · obtain ⟨q1, q2⟩ := cl t q e p hp
            have mv : ∀ x, (x ∈ found ∨ x ∈ s :: w) → x ∈ found ++ [s] ∨ x ∈ w := fun x hx => by
              rcases hx with z | z
              · exact .inl (List.mem_append_left _ z)
              · rcases List.mem_cons.mp z with z | z
                · rw [z]; exact .inl (List.mem_append_right _ (List.mem_singleton.mpr rfl))
                · exact .inr z
            exact ⟨mv _ q1, mv _ q2⟩
          · rw [List.mem_singleton.mp q] at e
            exact absurd e c2
        refine ⟨N + 1, st, by rw [allGo, if_neg c1, if_neg c2]; exact e, fun t ht => ?_, fun t ht => b t (List.mem_append_left _ ht), c⟩
        rcases List.mem_cons.mp ht with z | z
        · rw [z]; exact b s (List.mem_append_right _ (List.mem_singleton.mpr rfl))
        · exact a t z
end
end K96
end

section
set_option Elab.async false
set_option linter.all false
set_option maxRecDepth 100000
set_option maxHeartbeats 2000000
namespace K96
open PySem PySem.Spec PyProof.Rows L2 PL
abbrev cand (bt : Stt → Int × Tree) (p : Prt) : Int × Tree := ((bt p.2.1).1 + (bt p.2.2).1, .spl p.1 (bt p.2.1).2 (bt p.2.2).2)
theorem pick_fold (bt : Stt → Int × Tree) : ∀ (ps : List Prt) (o : Option (Int × Tree)), (∀ q, ps.foldl (bpick bt) o = some q → (o = some q ∨ ∃ p ∈ ps, q = cand bt p) ∧ (∀ p ∈ ps, q.1 ≤ (cand bt p).1) ∧ ∀ q0, o = some q0 → q.1 ≤ q0.1) ∧ (ps ≠ [] ∨ o ≠ none → ps.foldl (bpick bt) o ≠ none)
  | [], o => ⟨fun q h => ⟨.inl h, (fun p hp => by cases hp), fun q0 h0 => by
      have h : o = some q := h
      rw [h] at h0; cases h0; exact Int.le_refl _⟩, fun h => h.resolve_left (fun z => z rfl)⟩
  | p :: ps, o => by
    obtain ⟨h1, h2⟩ := pick_fold bt ps (bpick bt o p)
    have e : ∀ q, bpick bt o p = some q → (o = some q ∨ q = cand bt p) ∧ q.1 ≤ (cand bt p).1 ∧ ∀ q0, o = some q0 → q.1 ≤ q0.1 := fun q hq => by
      cases o with
      | none => cases hq; exact ⟨.inr rfl, Int.le_refl _, fun q0 h => by cases h⟩
      | some r =>
        have hq : (if (bt p.2.1).1 + (bt p.2.2).1 < r.1 then some (cand bt p) else some r) = some q := hq
        by_cases c : (bt p.2.1).1 + (bt p.2.2).1 < r.1
        · rw [if_pos c] at hq
          have hq : cand bt p = q := Option.some.inj hq
          rw [← hq]
          refine ⟨.inr rfl, Int.le_refl _, fun q0 h => ?_⟩
          have h : r = q0 := Option.some.inj h
          rw [← h]; show (bt p.2.1).1 + (bt p.2.2).1 ≤ r.1; omega
        · rw [if_neg c] at hq
          have hq : r = q := Option.some.inj hq
          rw [← hq]
          refine ⟨.inl rfl, by show r.1 ≤ (bt p.2.1).1 + (bt p.2.2).1; omega, fun q0 h => ?_⟩
          have h : r = q0 := Option.some.inj h
          rw [← h]; exact Int.le_refl _
    have ne : bpick bt o p ≠ none := by
      cases o with
      | none => intro z; cases z
      | some r => unfold bpick; dsimp only; split <;> (intro z; cases z)
    refine ⟨fun q hq => ?_, fun _ => h2 (.inr ne)⟩
    obtain ⟨a, b, c⟩ := h1 q hq
    obtain ⟨r, hr⟩ := Option.ne_none_iff_exists'.mp ne
    obtain ⟨a', b', c'⟩ := e r hr
    have qr := c r hr
    refine ⟨?_, fun x hx => ?_, fun q0 h0 => by have := c' q0 h0; omega⟩
    · rcases a with a | ⟨x, hx, ex⟩
      · rcases (e q a).1 with z | z
        · exact .inl z
        · exact .inr ⟨p, List.mem_cons_self .., z⟩
      · exact .inr ⟨x, List.mem_cons_of_mem _ hx, ex⟩
    · rcases List.mem_cons.mp hx with z | z
      · rw [z]; omega
      · exact b x z
theorem pick_congr {bt bt' : Stt → Int × Tree} : ∀ (ps : List Prt) (o : Option (Int × Tree)), (∀ p ∈ ps, bt p.2.1 = bt' p.2.1 ∧ bt p.2.2 = bt' p.2.2) → ps.foldl (bpick bt) o = ps.foldl (bpick bt') o
  | [], _, _ => rfl
  | p :: ps, o, h => by
    obtain ⟨a, b⟩ := h p (List.mem_cons_self ..)
    rw [List.foldl_cons, List.foldl_cons, show bpick bt o p = bpick bt' o p by unfold bpick; rw [a, b]]
    exact pick_congr ps _ fun x hx => h x (List.mem_cons_of_mem _ hx)
theorem enderG_cases (fs : List Face) (s : Stt) : ∀ is : List Nat, (enderG fs s is = -1 ∧ ∀ i ∈ is, isEnd (fs.getD i ([], [])) s = false) ∨ ∃ i ∈ is, enderG fs s is = (i : Int) ∧ isEnd (fs.getD i ([], [])) s = true
  | [] => .inl ⟨rfl, fun i hi => by cases hi⟩
  | i :: is => by
    unfold enderG
    by_cases c : isEnd (fs.getD i ([], [])) s = true
    · rw [if_pos c]; exact .inr ⟨i, List.mem_cons_self .., rfl, c⟩
    · rw [if_neg c]
      rcases enderG_cases fs s is with ⟨h1, h2⟩ | ⟨j, hj, h⟩
      · refine .inl ⟨h1, fun x hx => ?_⟩
        rcases List.mem_cons.mp hx with z | z
        · rw [z]; simpa using c
        · exact h2 x z
      · exact .inr ⟨j, List.mem_cons_of_mem _ hj, h⟩
theorem ender_cases (fs : List Face) (s : Stt) : (ender fs s = -1 ∧ ∀ i, i < fs.length → isEnd (fs.getD i ([], [])) s = false) ∨ ∃ i, i < fs.length ∧ ender fs s = (i : Int) ∧ isEnd (fs.getD i ([], [])) s = true := by
  rcases enderG_cases fs s (List.range fs.length) with ⟨h1, h2⟩ | ⟨i, hi, h⟩
  · exact .inl ⟨h1, fun i hi => h2 i (List.mem_range.mpr hi)⟩
  · exact .inr ⟨i, List.mem_range.mp hi, h⟩
section
variable {fs : List Face} {ns : List Str} {mk : Int} {s : Stt}
theorem isEnd_at {n : Nat} {f : Face} (hf : f.1.length = n) (h : f.2.length = (arrs n).length) : isEnd f s = true ↔ ∀ i, (hi : i < (arrs n).length) → (arrs n)[i] ∈ s.1 → hasSome (rowAt f i) s.2.1 s.2.2 = false := by
  unfold isEnd
  rw [List.all_eq_true, hf]
  constructor
  · intro q i hi hm
    have hi' : i < f.2.length := by omega
    have er : rowAt f i = f.2[i] := by unfold rowAt; rw [List.getD_eq_getElem?_getD, List.getElem?_eq_getElem hi']; rfl
    have hz : i < ((arrs n).zip f.2).length := by rw [List.length_zip]; omega
    have := q _ (List.getElem_mem hz)
    rw [List.getElem_zip, ← er] at this
    simpa [hm] using this
  · intro q p hp
    obtain ⟨i, hi, rfl⟩ := List.getElem_of_mem hp
    rw [List.length_zip] at hi
    rw [List.getElem_zip]
    have hi' : i < f.2.length := by omega
    have er : rowAt f i = f.2[i] := by unfold rowAt; rw [List.getD_eq_getElem?_getD, List.getElem?_eq_getElem hi']; rfl
    have := q i (by omega)
    rw [er] at this
    by_cases c : (arrs n)[i] ∈ s.1
    · simp [c, this c]
    · simp [c]
theorem hasSome_iff {r : Row} {lo hi : Int} : hasSome r lo hi = true ↔ (r.2 ≠ 0 ∧ (hi = 0 ∨ r.2 ≤ hi)) ∨ ∃ s ∈ r.1, lo ≤ s ∧ (hi = 0 ∨ s ≤ hi) := by
  unfold hasSome
  rw [Bool.or_eq_true, decide_eq_true_eq, List.any_eq_true]
  simp only [decide_eq_true_eq]
theorem has_betw {lo hi : Int} (h1 : 1 ≤ lo) {x : Int} (h : has (betw lo hi) x = true) : lo ≤ x ∧ (hi = 0 ∨ x ≤ hi) := by
  unfold betw at h
  split at h
  · rw [has_zero] at h; cases h
  · unfold fromTo at h
    split at h
    · next c =>
      rcases has_iff.mp h with q | q
      · cases q
      · exact ⟨q.2, .inl c⟩
    · rcases ((has_tidy (ns := rngI lo (hi + 1)) (ray := 0) (fun s hs => by have := rngI_mem.mp hs; omega) (Int.le_refl _)).2 x).mp h with q | q
      · have := rngI_mem.mp q
        exact ⟨this.1, .inr (by omega)⟩
      · omega
theorem has_some {r : Row} {lo hi x : Int} (h : has r x = true) (b : lo ≤ x ∧ (hi = 0 ∨ x ≤ hi)) : hasSome r lo hi = true := by
  rw [hasSome_iff]
  rcases has_iff.mp h with q | q
  · exact .inr ⟨x, q, b⟩
  · exact .inl ⟨by omega, b.2.imp id fun z => by omega⟩
/-- the facts on the way to a state -/
structure Way (ns : List Str) (s : Stt) (fcs : List Fact) : Prop where
  bnd : bnd fcs = (s.2.1, s.2.2)
  fit : ∀ a ∈ arrs ns.length, fitsB ns a fcs = true → a ∈ s.1
theorem Way.ok (w : Way ns s fcs) (g : Good ns.length mk s) (m1 : mk ≤ 6) : BndOk fcs := by
  have := g.lo
  have := g.hi
  unfold BndOk
  rw [w.bnd]
  dsimp only
  omega
/-- a face that ends a state denies there -/
theorem way_end (h : FsOk fs ns) (m1 : mk ≤ 6) (g : Good ns.length mk s) {fcs : List Fact} (w : Way ns s fcs) {p : Nat} (hp : p < fs.length) (e : isEnd (fs.getD p ([], [])) s = true) : endOk fs p fcs = true := by
  have hm := getD_mem hp
  have e := (isEnd_at (by rw [(h.ok _ hm).2]) (h.rw' _ hm).len).mp e
  refine end_by h hp (w.ok g m1) fun i hi hf x hx hb => ?_
  have q := e i hi (w.fit _ (List.getElem_mem hi) hf)
  rw [w.bnd] at hb
  rw [has_some hx (has_betw g.lo.1 hb)] at q
  cases q
theorem way_part (nd : ns.Nodup) (ris : RisS ns) (m1 : 1 ≤ mk ∧ mk ≤ 6) (g : Good ns.length mk s) {fcs : List Fact} (w : Way ns s fcs) {p : Prt} (hp : p ∈ parts s ns mk) : QOk ns p.1 ∧ Way ns p.2.1 (fcs ++ [ansA p.1]) ∧ Way ns p.2.2 (fcs ++ [ansB p.1]) := by
  have lo := g.lo
  have hi := g.hi
  have wb := w.bnd
  rcases part_cases hp with ⟨i, j, hij, hj, c1, c2, rfl⟩ | ⟨z, z1, z2, rfl⟩
  · have hi : i < ns.length := by omega
    refine ⟨⟨(at_idx nd hi).1, (at_idx nd hj).1, ris_lt ris hij hj⟩, ⟨by rw [bnd_snoc, wb]; rfl, fun a ha hf => ?_⟩, ⟨by rw [bnd_snoc, wb]; rfl, fun a ha hf => ?_⟩⟩
    · dsimp only [ansA] at hf
      rw [fits_snoc, Bool.and_eq_true, (fit_like nd hi hj a).1] at hf
      exact List.mem_filter.mpr ⟨w.fit a ha hf.1, hf.2⟩
    · dsimp only [ansB] at hf
      rw [fits_snoc, Bool.and_eq_true, (fit_like nd hi hj a).2] at hf
      exact List.mem_filter.mpr ⟨w.fit a ha hf.1, hf.2⟩
  · obtain ⟨b1, b2⟩ := last_b g m1.1 z2
    refine ⟨⟨by omega, by omega⟩, ⟨?_, fun a ha hf => ?_⟩, ⟨?_, fun a ha hf => ?_⟩⟩
    · rw [bnd_snoc, wb]
      show (s.2.1, if s.2.2 = 0 ∨ z < s.2.2 then z else s.2.2) = (s.2.1, z)
      rw [if_pos]
      by_cases c : s.2.2 = 0
      · exact .inl c
      · exact .inr (b2 c)
    · rw [fits_snoc, Bool.and_eq_true] at hf
      exact w.fit a ha hf.1
    · rw [bnd_snoc, wb]
      show (max s.2.1 (z + 1), s.2.2) = (z + 1, s.2.2)
      rw [show max s.2.1 (z + 1) = z + 1 by omega]
    · rw [fits_snoc, Bool.and_eq_true] at hf
      exact w.fit a ha hf.1
/-- no size of an arrangement is in all faces -/
def NoCell (fs : List Face) (n : Nat) : Prop := ∀ i, i < (arrs n).length → ∀ x, (∀ f ∈ fs, has (rowAt f i) x = true) → False
theorem arr_dist : ∀ n ≤ 3, ∀ a ∈ arrs n, ∀ b ∈ arrs n, a ≠ b → ∃ i ∈ List.range n, ∃ j ∈ behind i n, decide (a.getD i 0 = a.getD j 0) ≠ decide (b.getD i 0 = b.getD j 0) := by decide +kernel
/-- a state that no face ends has parts -/
theorem parts_ne (h : FsOk fs ns) (six : Six fs) (no : NoCell fs ns.length) (hmk : mk = gmark fs) (g : Good ns.length mk s) (e : ender fs s = -1) : parts s ns mk ≠ [] := fun z => by
  have n3 := h.n3
  have lo := g.lo
  have hi := g.hi
  have gle := g.le
  obtain ⟨k1, k2, k3⟩ := gmark_b six
  rw [← hmk] at k1 k2 k3
  have z1 : nparts s ns = [] := (List.append_eq_nil_iff.mp z).1
  have z2 : sparts s mk = [] := (List.append_eq_nil_iff.mp z).2
  have z3 : lastOf s mk + 1 ≤ s.2.1 := by
    have := congrArg List.length z2
    unfold sparts at this
    rw [List.length_map, rngI_len] at this
    simp at this
    omega
  -- one arrangement alone
  have one : ∀ a ∈ s.1, ∀ b ∈ s.1, a = b := fun a ha b hb => Classical.byContradiction fun ne => by
    obtain ⟨i, hi, j, hj, d⟩ := arr_dist ns.length n3 a (g.mem ha) b (g.mem hb) ne
    obtain ⟨j1, j2⟩ := behind_mem hj
    have c1 : likeA s i j ≠ [] := by
      by_cases c : a.getD i 0 = a.getD j 0
      · exact List.ne_nil_of_mem (List.mem_filter.mpr ⟨ha, decide_eq_true c⟩)
      · by_cases c2 : b.getD i 0 = b.getD j 0
        · exact List.ne_nil_of_mem (List.mem_filter.mpr ⟨hb, decide_eq_true c2⟩)
        · rw [decide_eq_false c, decide_eq_false c2] at d; exact absurd rfl d
    have c2 : unlikeA s i j ≠ [] := by
      by_cases c : a.getD i 0 = a.getD j 0
      · by_cases c2 : b.getD i 0 = b.getD j 0
        · rw [decide_eq_true c, decide_eq_true c2] at d; exact absurd rfl d
        · exact List.ne_nil_of_mem (List.mem_filter.mpr ⟨hb, by rw [decide_eq_false c2]; rfl⟩)
      · exact List.ne_nil_of_mem (List.mem_filter.mpr ⟨ha, by rw [decide_eq_false c]; rfl⟩)
    have := part_same (mk := mk) j1 j2 c1 c2
    rw [z] at this
    cases this
  -- each face has some size there
  have notEnd : ∀ f ∈ fs, isEnd f s = false := fun f hf => by
    rcases ender_cases fs s with ⟨_, q⟩ | ⟨i, _, q, _⟩
    · obtain ⟨j, hj, ej⟩ := List.getElem_of_mem hf
      have := q j hj
      rw [List.getD_eq_getElem?_getD, List.getElem?_eq_getElem hj, ej] at this
      exact this
    · rw [e] at q; omega
  have some1 : ∀ f ∈ fs, ∃ i, ∃ hi : i < (arrs ns.length).length, (arrs ns.length)[i] ∈ s.1 ∧ hasSome (rowAt f i) s.2.1 s.2.2 = true := fun f hf => Classical.byContradiction fun c => by
    have q : isEnd f s = true := (isEnd_at (by rw [(h.ok f hf).2]) (h.rw' f hf).len).mpr fun i hi hm => by
      cases c2 : hasSome (rowAt f i) s.2.1 s.2.2 with
      | false => rfl
      | true => exact absurd ⟨i, hi, hm, c2⟩ c
    rw [notEnd f hf] at q
    cases q
  obtain ⟨f0, rest, ef, _⟩ := h.at0
  obtain ⟨i, hi0, m0, _⟩ := some1 f0 (by rw [ef]; exact List.mem_cons_self ..)
  have all : ∀ f ∈ fs, hasSome (rowAt f i) s.2.1 s.2.2 = true := fun f hf => by
    obtain ⟨j, hj, mj, q⟩ := some1 f hf
    have := one _ m0 _ mj
    have : i = j := (List.getElem_inj (m_one ns.length n3).2.1).mp this
    subst this
    exact q
  have row : ∀ f ∈ fs, (∀ x ∈ (rowAt f i).1, x ≤ mk) ∧ (rowAt f i).2 ≤ 6 ∧ 0 ≤ (rowAt f i).2 := fun f hf => by
    have hi' : i < f.2.length := by rw [(h.rw' f hf).len]; exact hi0
    have er : rowAt f i = f.2[i] := by unfold rowAt; rw [List.getD_eq_getElem?_getD, List.getElem?_eq_getElem hi']; rfl
    rw [er]
    exact ⟨k3 f hf _ (List.getElem_mem hi'), (six f hf _ (List.getElem_mem hi')).2, ((h.rw' f hf).rows _ (List.getElem_mem hi')).ray⟩
  by_cases c : s.2.2 = 0
  · have l1 : lastOf s mk = mk := by unfold lastOf; rw [if_neg (fun q => q.1 c)]
    refine no i hi0 7 fun f hf => ?_
    obtain ⟨r1, r2, r3⟩ := row f hf
    rcases hasSome_iff.mp (all f hf) with q | ⟨x, hx, q⟩
    · exact has_iff.mpr (.inr ⟨by omega, by omega⟩)
    · have := r1 x hx; omega
  · have l1 : lastOf s mk = s.2.2 - 1 := by unfold lastOf; rw [if_pos ⟨c, by omega⟩]
    have := gle c
    refine no i hi0 s.2.1 fun f hf => ?_
    obtain ⟨r1, r2, r3⟩ := row f hf
    rcases hasSome_iff.mp (all f hf) with q | ⟨x, hx, q⟩
    · exact has_iff.mpr (.inr ⟨by omega, by omega⟩)
    · have : x = s.2.1 := by omega
      exact has_iff.mpr (.inl (by rw [← this]; exact hx))
def btF (fs : List Face) (ns : List Str) (mk : Int) : Nat → Stt → Int × Tree
  | 0, _ => (0, .fin 0)
  | k + 1, s => if ender fs s = -1 then (bestP s ns mk (btF fs ns mk k)).getD (0, .fin 0) else (1, .fin (ender fs s).toNat)
def btS (fs : List Face) (ns : List Str) (mk : Int) (s : Stt) : Int × Tree := btF fs ns mk ((wid s mk).toNat + 1) s
theorem btF_stable (h3 : ns.length ≤ 3) (m1 : 1 ≤ mk ∧ mk ≤ 6) : ∀ (k : Nat) (s : Stt), Good ns.length mk s → wid s mk < k → btF fs ns mk k s = btS fs ns mk s
  | 0, s, g, hk => by have := wid_b g h3 m1; omega
  | k + 1, s, g, hk => by
    have wb := wid_b g h3 m1
    unfold btS
    unfold btF
    by_cases c : ender fs s = -1
    · rw [if_pos c, if_pos c]
      congr 1
      refine pick_congr _ _ fun p hp => ?_
      obtain ⟨⟨g1, w1⟩, g2, w2⟩ := kids g m1.1 hp
      have b1 := wid_b g1 h3 m1
      have b2 := wid_b g2 h3 m1
      rw [btF_stable h3 m1 k _ g1 (by omega), btF_stable h3 m1 k _ g2 (by omega)]
      have st : ∀ t, Good ns.length mk t → wid t mk < wid s mk → btF fs ns mk (wid s mk).toNat t = btS fs ns mk t := fun t gt wt => by
        by_cases z : (wid s mk).toNat ≤ k
        · exact btF_stable h3 m1 _ t gt (by omega)
        · have : k < (wid s mk).toNat := by omega
          omega
      rw [st _ g1 w1, st _ g2 w2]
      exact ⟨rfl, rfl⟩
    · rw [if_neg c, if_neg c]
termination_by k => k
decreasing_by all_goals omega
theorem btS_fin {p : Nat} (e : ender fs s = (p : Int)) : btS fs ns mk s = (1, .fin p) := by
  unfold btS btF
  rw [if_neg (by omega), e]; rfl
theorem btS_spl (h3 : ns.length ≤ 3) (m1 : 1 ≤ mk ∧ mk ≤ 6) (g : Good ns.length mk s) (e : ender fs s = -1) (ne : parts s ns mk ≠ []) : bestP s ns mk (btS fs ns mk) = some (btS fs ns mk s) := by
  have wb := wid_b g h3 m1
  have c : bestP s ns mk (btF fs ns mk (wid s mk).toNat) = bestP s ns mk (btS fs ns mk) := pick_congr _ _ fun p hp => by
    obtain ⟨⟨g1, w1⟩, g2, w2⟩ := kids g m1.1 hp
    exact ⟨btF_stable h3 m1 _ _ g1 (by omega), btF_stable h3 m1 _ _ g2 (by omega)⟩
  have n := (pick_fold (btS fs ns mk) (parts s ns mk) none).2 (.inl ne)
  have e2 : btS fs ns mk s = (bestP s ns mk (btS fs ns mk)).getD (0, .fin 0) := by
    rw [← c]
    conv => lhs; unfold btS; unfold btF
    rw [if_pos e]
  rw [e2]
  cases q : bestP s ns mk (btS fs ns mk) with
  | none => exact absurd q n
  | some r => rfl
def tdep : Tree → Nat
  | .fin _ => 0
  | .spl _ a b => 1 + max (tdep a) (tdep b)
theorem best_ok (h : FsOk fs ns) (six : Six fs) (no : NoCell fs ns.length) (hmk : mk = gmark fs) : ∀ (k : Nat) (s : Stt), Good ns.length mk s → wid s mk < k →
    ((ends (btS fs ns mk s).2 : Nat) : Int) = (btS fs ns mk s).1 ∧ TOk ns fs.length (btS fs ns mk s).2 ∧ tdep (btS fs ns mk s).2 ≤ (wid s mk).toNat ∧ ∀ fcs, Way ns s fcs → judge fs (btS fs ns mk s).2 fcs = true
  | 0, s, g, hk => by
    have := wid_b g h.n3 (by rw [hmk]; exact ⟨(gmark_b six).1, (gmark_b six).2.1⟩)
    omega
  | k + 1, s, g, hk => by
    have m1 : 1 ≤ mk ∧ mk ≤ 6 := by rw [hmk]; exact ⟨(gmark_b six).1, (gmark_b six).2.1⟩
    have wb := wid_b g h.n3 m1
    obtain ⟨f0, rest, ef, en⟩ := h.at0
    have ris : RisS ns := by
      have := (h.ok f0 (by rw [ef]; exact List.mem_cons_self ..)).1.ris
      rwa [en] at this
    rcases ender_cases fs s with ⟨e, _⟩ | ⟨i, hi, e, q⟩
    · have sp := btS_spl h.n3 m1 g e (parts_ne h six no hmk g e)
      obtain ⟨a, _, _⟩ := (pick_fold (btS fs ns mk) (parts s ns mk) none).1 _ sp
      rcases a with a | ⟨p, hp, eq⟩
      · cases a
      · obtain ⟨⟨g1, w1⟩, g2, w2⟩ := kids g m1.1 hp
        have b1 := wid_b g1 h.n3 m1
        have b2 := wid_b g2 h.n3 m1
        obtain ⟨x1, x2, x3, x4⟩ := best_ok h six no hmk k _ g1 (by omega)
        obtain ⟨y1, y2, y3, y4⟩ := best_ok h six no hmk k _ g2 (by omega)
        rw [eq]
        refine ⟨?_, ?_, ?_, fun fcs w => ?_⟩
        · show ((ends (btS fs ns mk p.2.1).2 + ends (btS fs ns mk p.2.2).2 : Nat) : Int) = _
          push_cast
          rw [x1, y1]
        · refine ⟨?_, x2, y2⟩
          rcases part_cases hp with ⟨i, j, hij, hj, c1, c2, rfl⟩ | ⟨z, z1, z2, rfl⟩
          · exact ⟨(at_idx ris.nodup (by omega)).1, (at_idx ris.nodup hj).1, ris_lt ris hij hj⟩
          · have := last_b g m1.1 z2
            have := g.lo
            exact ⟨by omega, by omega⟩
        · show 1 + max (tdep (btS fs ns mk p.2.1).2) (tdep (btS fs ns mk p.2.2).2) ≤ _
          omega
        · obtain ⟨_, v1, v2⟩ := way_part ris.nodup ris m1 g w hp
          show (judge fs (btS fs ns mk p.2.1).2 (fcs ++ [ansA p.1]) && judge fs (btS fs ns mk p.2.2).2 (fcs ++ [ansB p.1])) = true
          rw [x4 _ v1, y4 _ v2]; rfl
    · rw [btS_fin e]
      exact ⟨rfl, hi, Nat.zero_le _, fun fcs w => way_end h m1.2 g w hi q⟩
theorem num_pos (h : FsOk fs ns) (six : Six fs) (no : NoCell fs ns.length) (hmk : mk = gmark fs) (g : Good ns.length mk s) : 1 ≤ (btS fs ns mk s).1 := by
  obtain ⟨a, _⟩ := best_ok h six no hmk ((wid s mk).toNat + 1) s g (by omega)
  have : ∀ t : Tree, 1 ≤ ends t := by
    intro t
    induction t with
    | fin p => exact Nat.le_refl _
    | spl q a b iha _ => unfold ends; omega
  have := this (btS fs ns mk s).2
  omega
/-- the number is at most that of the likes' tree -/
theorem likes_num (h : FsOk fs ns) (six : Six fs) (no : NoCell fs ns.length) (hmk : mk = gmark fs) {L : List Lik} {p : Nat} (hp : p < fs.length) (good : ∀ A l B, L = A ++ l :: B → LkOk fs ns A l) (last : ∀ a ∈ lets (fs.getD p ([], [])), fitsB ns a (lkF L) = true → False) :
    ∀ (B A : List Lik), L = A ++ B → (btS fs ns mk ((arrs ns.length).filter (fun a => fitsB ns a (lkF A)), 1, 0)).1 ≤ (B.length : Int) + 1 := by
  have m1 : 1 ≤ mk ∧ mk ≤ 6 := by rw [hmk]; exact ⟨(gmark_b six).1, (gmark_b six).2.1⟩
  have n3 := h.n3
  obtain ⟨f0, rest, ef, en⟩ := h.at0
  have ris : RisS ns := by
    have := (h.ok f0 (by rw [ef]; exact List.mem_cons_self ..)).1.ris
    rwa [en] at this
  have nd := ris.nodup
  have gd : ∀ l : List (List Int), List.Sublist l (arrs ns.length) → Good ns.length mk (l, 1, 0) := fun l hl => ⟨hl, ⟨by dsimp only; omega, by dsimp only; omega⟩, ⟨by dsimp only; omega, by dsimp only; omega⟩, fun q => absurd rfl q⟩
  -- a face that lets nothing of a state ends it
  have endBy : ∀ (l : List (List Int)) (q : Nat), q < fs.length → (∀ a ∈ l, a ∈ lets (fs.getD q ([], [])) → False) → (btS fs ns mk (l, 1, 0)).1 = 1 := fun l q hq hl => by
    have hm := getD_mem hq
    have ie : isEnd (fs.getD q ([], [])) (l, 1, 0) = true := (isEnd_at (by rw [(h.ok _ hm).2]) (h.rw' _ hm).len).mpr fun i hi hmem => by
      cases c : hasSome (rowAt (fs.getD q ([], [])) i) 1 0 with
      | false => rfl
      | true =>
        exfalso
        refine hl _ hmem ((lets_at n3 (by rw [(h.ok _ hm).2]) (h.rw' _ hm).len hi).mpr fun z => ?_)
        rw [z] at c
        simp [hasSome] at c
    rcases ender_cases fs (l, 1, 0) with ⟨_, w⟩ | ⟨i, _, w, _⟩
    · rw [w q hq] at ie; cases ie
    · rw [btS_fin w]
  intro B
  induction B with
  | nil =>
    intro A e
    rw [List.append_nil] at e
    subst e
    rw [endBy _ p hp fun a ha hl => last a hl (List.mem_filter.mp ha).2]
    show (1 : Int) ≤ 0 + 1
    omega
  | cons l B ih =>
    intro A e
    have ih := ih (A ++ [l]) (by simpa using e)
    obtain ⟨i, j, e1, e2, hij, hj, h5, h6⟩ := (good A l B e).ex
    have hi : i < ns.length := by omega
    rw [List.length_cons]
    push_cast
    generalize hX : (arrs ns.length).filter (fun a => fitsB ns a (lkF A)) = X
    have gs : Good ns.length mk (X, 1, 0) := gd X (by rw [← hX]; exact List.filter_sublist)
    have lk : likeA (X, 1, 0) i j = (arrs ns.length).filter (fun a => fitsB ns a (lkF (A ++ [l]))) := by
      unfold likeA
      rw [← hX, List.filter_filter]
      apply List.filter_congr
      intro a _
      rw [show lkF (A ++ [l]) = lkF A ++ [.like l.1 l.2.1] by simp [lkF], fits_snoc, e1, e2, (fit_like nd hi hj a).1, Bool.and_comm]
    have un : ∀ a ∈ unlikeA (X, 1, 0) i j, a ∈ lets (fs.getD l.2.2 ([], [])) → False := fun a ha hl => by
      obtain ⟨a1, a2⟩ := List.mem_filter.mp ha
      have a1 : a ∈ X := a1
      rw [← hX] at a1
      have := h6 a hl (List.mem_filter.mp a1).2
      rw [decide_eq_true this] at a2
      cases a2
    rcases ender_cases fs (X, 1, 0) with ⟨en, w⟩ | ⟨q, _, w, _⟩
    · by_cases c1 : unlikeA (X, 1, 0) i j = []
      · have : likeA (X, 1, 0) i j = X := by
          unfold likeA unlikeA at *
          apply List.filter_eq_self.mpr
          intro a ha
          cases c : decide (a.getD i 0 = a.getD j 0) with
          | true => rfl
          | false =>
            exfalso
            have : a ∈ X.filter (fun a => !decide (a.getD i 0 = a.getD j 0)) := List.mem_filter.mpr ⟨ha, by rw [c]; rfl⟩
            rw [c1] at this
            cases this
        rw [← lk, this] at ih
        omega
      · by_cases c2 : likeA (X, 1, 0) i j = []
        · exfalso
          have : (btS fs ns mk (X, 1, 0)).1 = 1 := endBy X l.2.2 h5 fun a ha hl => by
            by_cases c : a.getD i 0 = a.getD j 0
            · have : a ∈ likeA (X, 1, 0) i j := List.mem_filter.mpr ⟨ha, decide_eq_true c⟩
              rw [c2] at this
              cases this
            · exact un a (List.mem_filter.mpr ⟨ha, by rw [decide_eq_false c]; rfl⟩) hl
          have hm := getD_mem h5
          have ie := w l.2.2 h5
          have ie2 : isEnd (fs.getD l.2.2 ([], [])) (X, 1, 0) = true := (isEnd_at (by rw [(h.ok _ hm).2]) (h.rw' _ hm).len).mpr fun i' hi' hmem => by
            cases c : hasSome (rowAt (fs.getD l.2.2 ([], [])) i') 1 0 with
            | false => rfl
            | true =>
              exfalso
              have hl := (lets_at n3 (by rw [(h.ok _ hm).2]) (h.rw' _ hm).len hi').mpr fun z => by
                rw [z] at c
                simp [hasSome] at c
              have ha : (arrs ns.length)[i'] ∈ X := hmem
              by_cases c : (arrs ns.length)[i'].getD i 0 = (arrs ns.length)[i'].getD j 0
              · have : (arrs ns.length)[i'] ∈ likeA (X, 1, 0) i j := List.mem_filter.mpr ⟨ha, decide_eq_true c⟩
                rw [c2] at this
                cases this
              · exact un _ (List.mem_filter.mpr ⟨ha, by rw [decide_eq_false c]; rfl⟩) hl
          rw [ie] at ie2
          cases ie2
        · have sp := btS_spl n3 m1 gs en (parts_ne h six no hmk gs en)
          have mn := ((pick_fold (btS fs ns mk) (parts (X, 1, 0) ns mk) none).1 _ sp).2.1 _ (part_same (mk := mk) hij hj c2 c1)
          have u1 := endBy (unlikeA (X, 1, 0) i j) l.2.2 h5 un
          have mn : (btS fs ns mk (X, 1, 0)).1 ≤ (btS fs ns mk (likeA (X, 1, 0) i j, 1, 0)).1 + (btS fs ns mk (unlikeA (X, 1, 0) i j, 1, 0)).1 := mn
          rw [u1, lk] at mn
          omega
    · rw [btS_fin w]
      show (1 : Int) ≤ _
      omega
end
end K96
end

section
set_option Elab.async false
set_option linter.all false
set_option maxRecDepth 100000
set_option maxHeartbeats 2000000
namespace K96
open PySem PySem.Spec PyProof.Rows L2 PL
abbrev l2 : TXS := (sSet 2 (xFn 2 T__law_names (aCons (rVar 1) (aCons (rOf (xBin addD (xC (.int 1)) (xFn 2 T__law_draw (aCons (rVar 1) (aCons (rOf (xC (.int 3))) aNil))))) aNil))))
abbrev l3 : TXS := (sSet 3 (xCall tupleD (aCons (rOf (xOfF (fLc (jR1 (xBin addD (xC (.int 2)) (xFn 2 T__law_draw (aCons (rVar 1) (aCons (rOf (xC (.int 3))) aNil))))) (.name 14) tYesP (xFn 2 T__law_drawn_face (aCons (rVar 1) (aCons (rVar 2) aNil))) [14]))) aNil)))
abbrev l4 : TXS := (sSet 4 (xFn 1 T__law_exchange (aCons (rVar 3) aNil)))
abbrev l5 : TXS := (sIf (tB1 (xBin neD (xFn 1 T_exchange (aCons (rVar 3) aNil)) (xTup (aCons (rOf (xIx (rVar 4) (xC (.int 0)))) (aCons (rOf (xIx (rVar 4) (xC (.int 1)))) aNil))))) (sRet (xC (.bl false))) sNext)
abbrev l6 : TXS := (sSet 5 (xIx (rVar 3) (xC (.int 0))))
abbrev l7 : TXS := (sFor (iV 3) (gN 6) (sSet 5 (xFn 2 T__law_meet (aCons (rVar 5) (aCons (rVar 6) aNil)))))
abbrev l8 : TXS := (sIf (tB1 (xBin eqD (xIx (rVar 4) (xC (.int 0))) (xC (.str ("yes" : Str))))) (sRet (xOr (xNot (rOf (xFn 1 T__law_no_cell (aCons (rVar 5) aNil)))) (xIn (xC (.bl false)) (rOf (xOfF (fLc (jV 3) (.name 6) tYesP (xFn 1 T__law_fit (aCons (rVar 6) aNil)) [6]))) inBD))) sNext)
abbrev l9 : TXS := (sIf (tNot1 (tB1 (xFn 1 T__law_no_cell (aCons (rVar 5) aNil)))) (sRet (xC (.bl false))) sNext)
abbrev l10 : TXS := (sSet 7 (xFn 2 T__law_likes (aCons (rOf (xIx (rVar 4) (xC (.int 1)))) (aCons (rVar 2) aNil))))
abbrev l11 : TXS := (sSet 8 (xTup (aCons (rOf (xC (.str ("end" : Str)))) (aCons (rOf (xIx (rVar 4) (xC (.int 2)))) aNil))))
abbrev l12 : TXS := (sFor (iRevP (xVar 7)) (gT [9, 10, 11]) (sSet 8 (xTup (aCons (rOf (xC (.str ("split" : Str)))) (aCons (rOf (xTup (aCons (rOf (xC (.str ("same" : Str)))) (aCons (rVar 9) (aCons (rVar 10) aNil))))) (aCons (rOf (xTup (aCons (rVar 8) (aCons (rOf (xTup (aCons (rOf (xC (.str ("end" : Str)))) (aCons (rVar 11) aNil)))) aNil)))) aNil))))))
abbrev l13 : TXS := (sIf (tOr1 (tB1 (xBin neB (xFn 2 T_judge_split (aCons (rVar 8) (aCons (rVar 3) aNil))) (xC (.bl true)))) (tB1 (xBin neD (xFn 1 T_ends_of (aCons (rVar 8) aNil)) (xBin addD (xCall lenD (aCons (rVar 7) aNil)) (xC (.int 1)))))) (sRet (xC (.bl false))) sNext)
abbrev l16 : TXS := (sIf (tOr1 (tB1 (xBin neB (xFn 2 T_judge_split (aCons (rVar 12) (aCons (rVar 3) aNil))) (xC (.bl true)))) (tB1 (xBin neD (xFn 1 T_ends_of (aCons (rVar 12) aNil)) (xVar 13)))) (sRet (xC (.bl false))) sNext)
abbrev l17 : TXS := (sRet (xChain leD leD (xC (.int 1)) (xVar 13) (xBin addD (xCall lenD (aCons (rVar 7) aNil)) (xC (.int 1)))))
abbrev lE (x2 x3 x4 x5 x6 x7 x8 x9 x10 x11 x12 x13 : Option PV) : PEnv := [none, some (.d .pot), x2, x3, x4, x5, x6, x7, x8, x9, x10, x11, x12, x13, none]
theorem drw1 {n : Int} {ρ : PEnv} {Kk : D → Prop} (e : ρ[1]? = some (some (.d .pot))) (hn : 0 < n ∧ n ≤ 1000) (h : ∀ v, 0 ≤ v → v < n → Kk (.int v)) : xFn 2 T__law_draw (aCons (rVar 1) (aCons (rOf (xC (.int n))) aNil)) ρ Kk := by
  simp only [s_xFn, s_aCons, s_aNil, s_rVar, e, s_xP, s_rOf, s_xC, List.length_cons, List.length_nil, List.map_cons, List.map_nil, PV.dat_d, true_and]
  exact ⟨n, rfl, hn.1, hn.2, fun v h1 h2 => ⟨fun h => by simp at h, h v h1 h2⟩⟩
/-- a comprehension whose items may be any of a kind -/
theorem compP_pick {α : Type} {c : CT} {te : TX} {ρ : PEnv} {k : List D → Prop} (enc : α → D) (Pd : α → Prop) : ∀ (l : List D) (acc : List α), acc.length + l.length ≤ 100000 → (∀ a ∈ acc, Pd a) → (∀ x ∈ l, ∀ C : D → Prop, (∀ y, Pd y → C (enc y)) → c.bind x ρ fun ρ2 => te ρ2 C) →
    (∀ out : List α, out.length = acc.length + l.length → (∀ a ∈ out, Pd a) → k (out.map enc)) → compP c tYesP te ρ k l (acc.map enc)
  | [], acc, _, ha, _, hk => hk acc (by simp) ha
  | x :: l, acc, hl, ha, h, hk => by
    rw [List.length_cons] at hl
    have q := h x (List.mem_cons_self ..) (fun y => Sm ((acc.map enc).length + 1) ∧ compP c tYesP te ρ k l (acc.map enc ++ [y])) fun y hy => by
      refine ⟨by rw [List.length_map]; unfold Sm; omega, ?_⟩
      have := compP_pick (c := c) (te := te) (ρ := ρ) (k := k) enc Pd l (acc ++ [y]) (by simp; omega) (fun a z => by
        rcases List.mem_append.mp z with z | z
        · exact ha a z
        · rw [List.mem_singleton.mp z]; exact hy) (fun z hz => h z (List.mem_cons_of_mem _ hz)) fun out ho hp => hk out (by rw [ho, List.length_append]; simp; omega) hp
      simpa using this
    simpa [compP] using q
def goodB (x : Str) : Bool := match x.cps.toList with
  | [] => false
  | c :: cs => decide (cs.length ≤ 7) && (decide (c ∈ z_SMALL.cps.toList) && (c :: cs).all fun d => decide (d ∈ z_SMALL.cps.toList) || decide (d ∈ z_FIGURES.cps.toList))
theorem goodB_ok {x : Str} (h : goodB x = true) : GoodN x := by
  unfold goodB at h
  cases e : x.cps.toList with
  | nil => rw [e] at h; cases h
  | cons c cs =>
    rw [e] at h
    simp only [Bool.and_eq_true, decide_eq_true_eq, List.all_eq_true, Bool.or_eq_true] at h
    exact ⟨c, cs, e, h.1, h.2.1, h.2.2⟩
theorem pool_good : ∀ x ∈ pool, goodB x = true ∧ PyData.strOk x = true := by decide +kernel
structure NmOk (ns : List Str) : Prop where
  n1 : 1 ≤ ns.length
  n3 : ns.length ≤ 3
  pool : ∀ x ∈ ns, x ∈ pool
  ris : RisS ns
theorem drs_ok {ns : List Str} {fs : List Face} (hn : NmOk ns) (hl : 2 ≤ fs.length ∧ fs.length ≤ 4) (hd : ∀ f ∈ fs, DrF ns f) : FsOk fs ns ∧ Six fs := by
  refine ⟨⟨fun e => by rw [e] at hl; simp at hl, by omega, hn.n1, hn.n3, fun f hf => ?_⟩, fun f hf r hr => ?_⟩
  · have d := hd f hf
    refine ⟨⟨by rw [d.names]; exact hn.n3, fun x hx => goodB_ok (pool_good x (hn.pool x (d.names ▸ hx))).1, fun x hx => (pool_good x (hn.pool x (d.names ▸ hx))).2, by rw [d.names]; exact hn.ris, by rw [d.len, d.names], fun p hp => ?_⟩, d.names⟩
    rw [d.names] at hp
    have := d.rows p hp
    exact ⟨this.v, this.lo⟩
  · have d := hd f hf
    obtain ⟨i, hi, rfl⟩ := List.getElem_of_mem hr
    have hz : i < ((arrs ns.length).zip f.2).length := by rw [List.length_zip, ← d.len]; omega
    have := List.getElem_mem hz
    rw [List.getElem_zip] at this
    exact (d.rows _ this).six
theorem law_l2 {Z : EndsP} (h : ∀ ns : List Str, NmOk ns → Z.nx (lE (some (.d (.tup (ns.map D.str)))) none none none none none none none none none none none)) : l2 Z (lE none none none none none none none none none none none none) := by
  simp only [s_sSet, s_xFn, s_aCons, s_aNil, s_rVar, s_rOf, s_xBin, s_xC, List.getElem?_cons_zero, List.getElem?_cons_succ, s_xP, List.length_cons, List.length_nil, List.map_cons, List.map_nil, PV.dat_d, true_and]
  refine ⟨3, rfl, by omega, by omega, fun v v0 v1 => ⟨fun h => by simp at h, ?_⟩⟩
  simp only [s_addI, List.length_cons, List.length_nil, List.map_cons, List.map_nil, PV.dat_d, true_and]
  refine ⟨(1 + v).toNat, by rw [show ((1 + v).toNat : Int) = 1 + v by omega], by omega, fun xs h1 h2 h3 => ⟨fun h => by simp at h, ?_⟩⟩
  exact h xs ⟨by omega, by omega, h2, h3⟩
theorem law_l3 {Z : EndsP} {ns : List Str} (hn : NmOk ns) (h : ∀ fs : List Face, FsOk fs ns → Six fs → Z.nx (lE (some (.d (.tup (ns.map D.str)))) (some (.d (facesD fs))) none none none none none none none none none none)) : l3 Z (lE (some (.d (.tup (ns.map D.str)))) none none none none none none none none none none none) := by
  simp only [s_sSet, s_xCall, s_xFn, s_xOfF, s_fLc, s_jR1, s_aCons, s_aNil, s_rVar, s_rOf, s_xBin, s_xC, List.getElem?_cons_zero, List.getElem?_cons_succ, s_xP, List.length_cons, List.length_nil, List.map_cons, List.map_nil, PV.dat_d, true_and]
  refine ⟨3, rfl, by omega, by omega, fun v v0 v1 => ⟨fun h => by simp at h, ?_⟩⟩
  simp only [s_addI, s_wipe1, s_wipe0, List.set_cons_succ, List.set_cons_zero]
  refine ⟨⟨by omega, by omega, by omega, by omega⟩, ?_⟩
  refine compP_pick (α := Face) faceD (DrF ns) (rngD 0 (2 + v)) [] (by simp [rngD]; omega) (fun a z => by cases z) (fun x hx C hC => ?_) (fun out ho hp => ?_)
  · simp only [s_ctN, s_gN, List.set_cons_succ, List.set_cons_zero, s_xFn, s_aCons, s_aNil, s_rVar, List.getElem?_cons_zero, List.getElem?_cons_succ, s_xP, List.length_cons, List.length_nil, List.map_cons, List.map_nil, PV.dat_d, true_and]
    exact ⟨ns, rfl, hn.n3, fun f hf => ⟨fun h => by simp at h, hC f hf⟩⟩
  · simp only [s_tupleL]
    have hl : 2 ≤ out.length ∧ out.length ≤ 4 := by
      rw [ho]; simp [rngD]; omega
    obtain ⟨a, b⟩ := drs_ok hn hl hp
    exact h out a b
theorem law_l4 {Z : EndsP} {ns : List Str} {fs : List Face} (hf : FsOk fs ns) (h : Z.nx (lE (some (.d (.tup (ns.map D.str)))) (some (.d (facesD fs))) (some (.d (lexD (lexGo fs (List.range 60) (iota ns.length) [] 0)))) none none none none none none none none none)) :
    l4 Z (lE (some (.d (.tup (ns.map D.str)))) (some (.d (facesD fs))) none none none none none none none none none none) := by
  simp only [s_sSet, s_xFn, s_aCons, s_aNil, s_rVar, List.getElem?_cons_zero, List.getElem?_cons_succ, s_xP, List.length_cons, List.length_nil, List.map_cons, List.map_nil, PV.dat_d, true_and]
  exact ⟨fs, ns, rfl, hf, fun h => by simp at h, h⟩
theorem cl_ex (b : Bool) (st : List Stp) : D.cln (.tup [.str (if b then "no" else "yes"), .tup (st.map stpD)]) = true := by
  cases b <;> simp [List.all_eq_true]
theorem law_l5 {Z : EndsP} {x2 x5 x6 x7 x8 x9 x10 x11 x12 x13 : Option PV} {ns : List Str} {fs : List Face} (hf : FsOk fs ns) {r : Option Nat × List Stp} (e : exGo fs 1000 (iota ns.length) [] 0 0 = some r) (h : Z.nx (lE x2 (some (.d (facesD fs))) (some (.d (lexD r))) x5 x6 x7 x8 x9 x10 x11 x12 x13)) :
    l5 Z (lE x2 (some (.d (facesD fs))) (some (.d (lexD r))) x5 x6 x7 x8 x9 x10 x11 x12 x13) := by
  have sm2 : Sm 2 := by unfold Sm; omega
  simp only [s_sIf, s_tB1, s_xBin, s_xFn, s_aCons, s_aNil, s_rVar, List.getElem?_cons_zero, List.getElem?_cons_succ, s_xP, List.length_cons, List.length_nil, List.map_cons, List.map_nil, PV.dat_d, true_and]
  refine ⟨fs, ns, r, rfl, hf, e, fun h => by simp at h, ?_⟩
  simp only [s_xTup, s_aCons, s_aNil, s_rOf, s_xIx, s_rVar, s_xC, List.getElem?_cons_zero, List.getElem?_cons_succ, s_xP, PV.dat_d, s_ixT, atI_zero, atI_one, s_withD, s_allD0, s_allD1, List.length_cons, List.length_nil, sm2, true_and, s_neD, cl_ex, decide_true, Bool.not_true, s_isB, Bool.false_eq_true, if_false, s_sNext]
  exact h
theorem law_l6 {Z : EndsP} {x2 x4 x5 x6 x7 x8 x9 x10 x11 x12 x13 : Option PV} {ns : List Str} {fs : List Face} (hf : FsOk fs ns) (h : Z.nx (lE x2 (some (.d (facesD fs))) x4 (some (.d (faceD (fs.getD 0 ([], []))))) x6 x7 x8 x9 x10 x11 x12 x13)) : l6 Z (lE x2 (some (.d (facesD fs))) x4 x5 x6 x7 x8 x9 x10 x11 x12 x13) := by
  obtain ⟨f, rest, ef, en⟩ := hf.at0
  have a0 : atI (fs.map faceD) 0 = some (faceD f) := by rw [ef, List.map_cons, atI_zero]
  have e0 : fs.getD 0 ([], []) = f := by rw [ef]; rfl
  rw [e0] at h
  simp only [s_sSet, s_xIx, s_rVar, s_xC, List.getElem?_cons_zero, List.getElem?_cons_succ, s_xP, PV.dat_d, s_ixT, a0]
  exact h
theorem tidy_top {ns : List Int} {ray c : Int} (h0 : 0 ≤ c) (h : ray ≤ c) : (tidy ns ray).2 ≤ c := by
  have go : ∀ (rs : List Int) (t : Int), (trimR rs t).2 ≤ t := by
    intro rs
    induction rs with
    | nil => intro t; exact Int.le_refl _
    | cons y ys ih =>
      intro t
      unfold trimR
      split
      · have := ih (t - 1); omega
      · exact Int.le_refl _
  unfold tidy
  split
  · have := go ((srt ns).filter fun x => decide (x < ray)).reverse ray
    omega
  · exact h0
structure MtOk (n : Nat) (f : Face) : Prop where
  sml : FSml f
  ray : ∀ r ∈ f.2, 0 ≤ r.2 ∧ r.2 ≤ 20
  len : f.2.length = (arrs n).length
theorem MtOk.meet {n : Nat} {f g : Face} (hf : MtOk n f) (hg : MtOk n g) : MtOk n (lawMeetF f g) := by
  refine ⟨fun r hr => ?_, fun r hr => ?_, by show (List.zipWith lawMeetR f.2 g.2).length = _; rw [List.length_zipWith, hf.len, hg.len]; omega⟩
  · obtain ⟨x, hx, y, hy, rfl⟩ := zipWith_mem hr
    exact tidy_sml fun s hs => by
      rcases List.mem_append.mp (List.mem_filter.mp hs).1 with q | q
      · exact (hf.sml x hx).mem s q
      · exact (hg.sml y hy).mem s q
  · obtain ⟨x, hx, y, hy, rfl⟩ := zipWith_mem hr
    have h1 := hf.ray x hx
    have h2 := hg.ray y hy
    refine ⟨(has_lawMeet ((hf.sml x hx).rw' h1.1) ((hg.sml y hy).rw' h2.1)).1.ray, ?_⟩
    unfold lawMeetR
    rw [law_ray h1.1 h2.1]
    refine tidy_top (by omega) ?_
    split <;> omega
theorem FsOk.mt {fs : List Face} {ns : List Str} (h : FsOk fs ns) : ∀ f ∈ fs, MtOk ns.length f := fun f hf => by
  refine ⟨h.sml f hf, fun r hr => ?_, (h.rw' f hf).len⟩
  have ok := (h.ok f hf).1
  obtain ⟨i, hi, rfl⟩ := List.getElem_of_mem hr
  have hl := ok.len
  have : ((arrs f.1.length)[i]'(by omega), f.2[i]) ∈ (arrs f.1.length).zip f.2 := by
    have hz : i < ((arrs f.1.length).zip f.2).length := by rw [List.length_zip]; omega
    have := List.getElem_mem hz
    rwa [List.getElem_zip] at this
  exact (ok.rows _ this).1.ray
theorem law_l7 {Z : EndsP} {x2 x4 x6 x7 x8 x9 x10 x11 x12 x13 : Option PV} {ns : List Str} {fs : List Face} (hf : FsOk fs ns) (h : ∀ x6, Z.nx (lE x2 (some (.d (facesD fs))) x4 (some (.d (faceD (lawF fs)))) x6 x7 x8 x9 x10 x11 x12 x13)) :
    l7 Z (lE x2 (some (.d (facesD fs))) x4 (some (.d (faceD (fs.getD 0 ([], []))))) x6 x7 x8 x9 x10 x11 x12 x13) := by
  have ne : 0 < fs.length := by
    cases e : fs with
    | nil => exact absurd e hf.ne
    | cons _ _ => simp
  have la := arrs_len ns.length (by have := hf.n3; omega)
  have mt := hf.mt
  simp only [s_sFor, s_iV, List.getElem?_cons_zero, List.getElem?_cons_succ, s_xP, s_seqT]
  refine loopP_enc faceD (fun xs ρ => (∀ f ∈ xs, MtOk ns.length f) ∧ ∃ (g : Face) (y : Option PV), MtOk ns.length g ∧ xs.foldl lawMeetF g = lawF fs ∧ ρ = lE x2 (some (.d (facesD fs))) x4 (some (.d (faceD g))) y x7 x8 x9 x10 x11 x12 x13) (fun ρ q => ?_) (fun f xs ρ C hC q => ?_) _ _ ⟨mt, _, _, mt _ (getD_mem ne), rfl, rfl⟩
  · obtain ⟨_, g, y, _, e, rfl⟩ := q
    have e : g = lawF fs := e
    subst e
    exact h y
  · obtain ⟨hx, g, y, hg, e, rfl⟩ := q
    have mf := hx f (List.mem_cons_self ..)
    have q := hC (lE x2 (some (.d (facesD fs))) x4 (some (.d (faceD (lawMeetF g f)))) (some (.d (faceD f))) x7 x8 x9 x10 x11 x12 x13) ⟨fun z hz => hx z (List.mem_cons_of_mem _ hz), lawMeetF g f, _, hg.meet mf, e, rfl⟩
    simp only [s_gN, List.set_cons_succ, List.set_cons_zero, s_sSet, s_xFn, s_aCons, s_aNil, s_rVar, List.getElem?_cons_zero, List.getElem?_cons_succ, s_xP, List.length_cons, List.length_nil, List.map_cons, List.map_nil, PV.dat_d, true_and]
    exact ⟨g, f, rfl, hg.sml, mf.sml, fun r hr => ⟨(hg.ray r hr).1, by have := (hg.ray r hr).2; omega⟩, fun r hr => ⟨(mf.ray r hr).1, by have := (mf.ray r hr).2; omega⟩, by rw [hg.len, mf.len], by rw [hg.len]; omega, fun h => by simp at h, q⟩
theorem lawF_len {fs : List Face} {ns : List Str} (hf : FsOk fs ns) : (lawF fs).2.length ≤ 1000 := by
  have ne : 0 < fs.length := by
    cases e : fs with
    | nil => exact absurd e hf.ne
    | cons _ _ => simp
  have la := arrs_len ns.length (by have := hf.n3; omega)
  obtain ⟨h1, _⟩ := fold_has lawMeetR lawMeetF (fun _ _ => rfl) (fun _ _ => has_lawMeet) fs (fs.getD 0 ([], [])) (hf.rw' _ (getD_mem ne)) hf.rw'
  unfold lawF
  rw [h1.len]; omega
theorem str_yn : ((("no" : Str) = ("yes" : Str))) = False := eq_false (by decide +kernel)
theorem law_l8 {Z : EndsP} {x2 x6 x7 x8 x9 x10 x11 x12 x13 : Option PV} {ns : List Str} {fs : List Face} (hf : FsOk fs ns) {r : Option Nat × List Stp} (e : ExEnd fs ns.length r) (hy : r.1 = none → Z.rt (.bl true)) (hn : r.1 ≠ none → Z.nx (lE x2 (some (.d (facesD fs))) (some (.d (lexD r))) (some (.d (faceD (lawF fs)))) x6 x7 x8 x9 x10 x11 x12 x13)) :
    l8 Z (lE x2 (some (.d (facesD fs))) (some (.d (lexD r))) (some (.d (faceD (lawF fs)))) x6 x7 x8 x9 x10 x11 x12 x13) := by
  obtain ⟨ro, st⟩ := r
  cases ro with
  | some p =>
    have hn := hn (fun z => by cases z)
    simp only [s_sIf, s_tB1, s_xBin, s_xIx, s_rVar, s_xC, List.getElem?_cons_zero, List.getElem?_cons_succ, s_xP, PV.dat_d, s_ixT, atI_zero, s_eqD, s_clS, Option.isSome_some, if_true, ok_w_no, ok_w_yes, D.str.injEq, str_yn, decide_false, s_isB, Bool.false_eq_true, if_false, s_sNext, true_and]
    exact hn
  | none =>
    have hy := hy rfl
    have yr := fun fit => yes_right hf e rfl fit
    simp only [s_sIf, s_tB1, s_xBin, s_xIx, s_rVar, s_xC, List.getElem?_cons_zero, List.getElem?_cons_succ, s_xP, PV.dat_d, s_ixT, atI_zero, s_eqD, s_clS, Option.isSome_none, ok_w_yes, decide_true, s_isB, Bool.false_eq_true, if_false, if_true, true_and, s_sRet, s_xOr, s_xNot, s_rOf, s_xFn, s_aCons, s_aNil, List.length_cons, List.length_nil, List.map_cons, List.map_nil]
    refine ⟨lawF fs, rfl, lawF_len hf, fun h => by simp at h, ?_⟩
    simp only [s_truB, s_isB]
    cases c : noC (lawF fs) with
    | false => simp; exact hy
    | true =>
      simp only [Bool.not_true, Bool.false_eq_true, if_false, s_xIn, s_xC, s_rOf, s_xOfF, s_fLc, s_jV, List.getElem?_cons_zero, List.getElem?_cons_succ, s_xP, PV.dat_d, s_seqT, s_wipe1, s_wipe0, List.set_cons_succ, List.set_cons_zero]
      refine compP_map faceD (fun f => D.bl (lawFit f)) fs (by have := hf.few; omega) (fun f hff C hC => ?_) ?_
      · obtain ⟨ok, en⟩ := hf.ok f hff
        have n3 := hf.n3
        simp only [s_ctN, s_gN, List.set_cons_succ, List.set_cons_zero, s_xFn, s_aCons, s_aNil, s_rVar, List.getElem?_cons_zero, List.getElem?_cons_succ, s_xP, List.length_cons, List.length_nil, List.map_cons, List.map_nil, PV.dat_d, true_and]
        exact ⟨f, rfl, by rw [en]; omega, ok.len, fun h => by simp at h, hC⟩
      · rw [show (fs.map fun f => D.bl (lawFit f)) = (fs.map lawFit).map D.bl by rw [List.map_map]; rfl]
        simp only [s_inBD]
        have m : false ∈ fs.map lawFit := Classical.byContradiction fun z => by
          have := yr fun f hff => by
            cases q : lawFit f with
            | true => rfl
            | false => exact absurd (List.mem_map.mpr ⟨f, hff, q⟩) z
          rw [c] at this
          cases this
        rw [decide_eq_true m]
        exact hy
theorem law_l9 {Z : EndsP} {x2 x3 x4 x6 x7 x8 x9 x10 x11 x12 x13 : Option PV} {ns : List Str} {fs : List Face} (hf : FsOk fs ns) (e : noC (lawF fs) = true) (h : Z.nx (lE x2 x3 x4 (some (.d (faceD (lawF fs)))) x6 x7 x8 x9 x10 x11 x12 x13)) : l9 Z (lE x2 x3 x4 (some (.d (faceD (lawF fs)))) x6 x7 x8 x9 x10 x11 x12 x13) := by
  simp only [s_sIf, s_tNot1, s_tB1, s_xFn, s_aCons, s_aNil, s_rVar, List.getElem?_cons_zero, List.getElem?_cons_succ, s_xP, List.length_cons, List.length_nil, List.map_cons, List.map_nil, PV.dat_d, true_and]
  refine ⟨lawF fs, rfl, lawF_len hf, fun h => by simp at h, ?_⟩
  simp only [s_isB, e, Bool.not_true, Bool.false_eq_true, if_false, s_sNext]
  exact h
theorem chain_len {fs : List Face} {ns : List Str} (hf : FsOk fs ns) : ∀ (st : List Stp) (a b : List Int), a ∈ arrs ns.length → ChainOk fs a st b → ∀ p ∈ st, p.2.length = ns.length
  | [], _, _, _, _, p, hp => by cases hp
  | (q, t) :: st, a, b, ha, ⟨h1, h2, h3⟩, p, hp => by
    have hm := getD_mem h1
    have ts := told_some hf.n3 (by rw [(hf.ok _ hm).2]) ha h2
    rcases List.mem_cons.mp hp with z | z
    · rw [z]; exact ((m_one _ hf.n3).2.2.2 t ts.1).2.2.2.2.2
    · exact chain_len hf st t b ts.1 h3 p z
theorem law_l10 {Z : EndsP} {x3 x5 x6 x7 x8 x9 x10 x11 x12 x13 : Option PV} {ns : List Str} {fs : List Face} (hf : FsOk fs ns) {p : Nat} {st : List Stp} (e : ExEnd fs ns.length (some p, st)) (h : Z.nx (lE (some (.d (.tup (ns.map D.str)))) x3 (some (.d (lexD (some p, st)))) x5 x6 (some (.d (.lst ((likes ns st).map likD)))) x8 x9 x10 x11 x12 x13)) :
    l10 Z (lE (some (.d (.tup (ns.map D.str)))) x3 (some (.d (lexD (some p, st)))) x5 x6 x7 x8 x9 x10 x11 x12 x13) := by
  obtain ⟨kn, k1, k2, k3, k4, k5⟩ := e
  have n3 := hf.n3
  have k3 : st.length ≤ ns.length := k3
  simp only [s_sSet, s_xFn, s_aCons, s_aNil, s_rOf, s_xIx, s_rVar, s_xC, List.getElem?_cons_zero, List.getElem?_cons_succ, s_xP, List.length_cons, List.length_nil, List.map_cons, List.map_nil, PV.dat_d, s_ixT, atI_one, true_and]
  exact ⟨st, ns, rfl, by omega, by omega, chain_len hf st _ kn (m_one _ n3).1 k2, fun h => by simp at h, h⟩
theorem law_l11 {Z : EndsP} {x2 x3 x5 x6 x7 x8 x9 x10 x11 x12 x13 : Option PV} {p : Nat} {st : List Stp} (h : Z.nx (lE x2 x3 (some (.d (lexD (some p, st)))) x5 x6 x7 (some (.d (treeD (.fin p)))) x9 x10 x11 x12 x13)) : l11 Z (lE x2 x3 (some (.d (lexD (some p, st)))) x5 x6 x7 x8 x9 x10 x11 x12 x13) := by
  have sm2 : Sm 2 := by unfold Sm; omega
  simp only [s_sSet, s_xTup, s_aCons, s_aNil, s_rOf, s_xIx, s_rVar, s_xC, List.getElem?_cons_zero, List.getElem?_cons_succ, s_xP, PV.dat_d, s_ixT, atI_two, s_withD, s_allD0, s_allD1, List.length_cons, List.length_nil, sm2, true_and]
  exact h
theorem law_l12 {Z : EndsP} {x2 x3 x4 x5 x6 x9 x10 x11 x12 x13 : Option PV} {p : Nat} {L : List Lik} (h : ∀ x9 x10 x11, Z.nx (lE x2 x3 x4 x5 x6 (some (.d (.lst (L.map likD)))) (some (.d (treeD (lkTree p L)))) x9 x10 x11 x12 x13)) :
    l12 Z (lE x2 x3 x4 x5 x6 (some (.d (.lst (L.map likD)))) (some (.d (treeD (.fin p)))) x9 x10 x11 x12 x13) := by
  have sm2 : Sm 2 := by unfold Sm; omega
  have sm3 : Sm 3 := by unfold Sm; omega
  simp only [s_sFor, s_iRevP, s_xVar, List.getElem?_cons_zero, List.getElem?_cons_succ, s_xD]
  rw [← List.map_reverse]
  refine loopP_enc likD (fun xs ρ => ∃ (B : List Lik) (a b c : Option PV), xs.reverse ++ B = L ∧ ρ = lE x2 x3 x4 x5 x6 (some (.d (.lst (L.map likD)))) (some (.d (treeD (lkTree p B)))) a b c x12 x13) (fun ρ q => ?_) (fun l xs ρ C hC q => ?_) _ _ ⟨[], _, _, _, by simp, rfl⟩
  · obtain ⟨B, a, b, c, e, rfl⟩ := q
    have e : B = L := by simpa using e
    subst e
    exact h a b c
  · obtain ⟨B, a, b, c, e, rfl⟩ := q
    have q := hC (lE x2 x3 x4 x5 x6 (some (.d (.lst (L.map likD)))) (some (.d (treeD (lkTree p (l :: B))))) (some (.d (.str l.1))) (some (.d (.str l.2.1))) (some (.d (.int l.2.2))) x12 x13) ⟨l :: B, _, _, _, by simpa using e, rfl⟩
    simp only [s_gT, s_gs1, s_gs0, List.length_cons, List.length_nil, List.set_cons_succ, List.set_cons_zero, true_and, s_sSet, s_xTup, s_aCons, s_aNil, s_rOf, s_rVar, s_xC, List.getElem?_cons_zero, List.getElem?_cons_succ, s_xP, PV.dat_d, s_withD, s_allD0, s_allD1, sm2, sm3]
    exact q
theorem law_l13 {Z : EndsP} {x2 x4 x5 x6 x9 x10 x11 x12 x13 : Option PV} {ns : List Str} {fs : List Face} (hf : FsOk fs ns) {p : Nat} {L : List Lik} (hL : L.length ≤ 27) (ht : TOk ns fs.length (lkTree p L)) (hj : judge fs (lkTree p L) [] = true)
    (h : Z.nx (lE x2 (some (.d (facesD fs))) x4 x5 x6 (some (.d (.lst (L.map likD)))) (some (.d (treeD (lkTree p L)))) x9 x10 x11 x12 x13)) : l13 Z (lE x2 (some (.d (facesD fs))) x4 x5 x6 (some (.d (.lst (L.map likD)))) (some (.d (treeD (lkTree p L)))) x9 x10 x11 x12 x13) := by
  obtain ⟨e1, e2⟩ := lk_ends p L
  simp only [s_sIf, s_tOr1, s_tB1, s_xBin, s_xFn, s_aCons, s_aNil, s_rVar, List.getElem?_cons_zero, List.getElem?_cons_succ, s_xP, List.length_cons, List.length_nil, List.map_cons, List.map_nil, PV.dat_d, true_and]
  refine ⟨lkTree p L, fs, ns, rfl, hf, ht, by omega, fun h => by simp at h, ?_⟩
  simp only [s_xC, hj, s_neB, decide_true, Bool.not_true, s_isB, Bool.false_eq_true, if_false]
  refine ⟨lkTree p L, rfl, by omega, fun h => by simp at h, ?_⟩
  have e3 : ((L.length + 1 : Nat) : Int) = (L.length : Int) + 1 := by omega
  simp only [s_xCall, s_aCons, s_aNil, s_rVar, List.getElem?_cons_zero, List.getElem?_cons_succ, s_xP, List.map_cons, List.map_nil, PV.dat_d, s_lenL, List.length_map, s_xC, s_addI, s_neD, s_clI, e1, e3, decide_true, Bool.not_true, s_isB, Bool.false_eq_true, if_false, s_sNext, true_and]
  exact h
theorem law_l16 {Z : EndsP} {x2 x4 x5 x6 x7 x8 x9 x10 x11 : Option PV} {ns : List Str} {fs : List Face} (hf : FsOk fs ns) {t : Tree} {n : Int} (hn : nodes t ≤ 1000) (ht : TOk ns fs.length t) (hj : judge fs t [] = true) (he : ((ends t : Nat) : Int) = n)
    (h : Z.nx (lE x2 (some (.d (facesD fs))) x4 x5 x6 x7 x8 x9 x10 x11 (some (.d (treeD t))) (some (.d (.int n))))) : l16 Z (lE x2 (some (.d (facesD fs))) x4 x5 x6 x7 x8 x9 x10 x11 (some (.d (treeD t))) (some (.d (.int n)))) := by
  simp only [s_sIf, s_tOr1, s_tB1, s_xBin, s_xFn, s_aCons, s_aNil, s_rVar, List.getElem?_cons_zero, List.getElem?_cons_succ, s_xP, List.length_cons, List.length_nil, List.map_cons, List.map_nil, PV.dat_d, true_and]
  refine ⟨t, fs, ns, rfl, hf, ht, hn, fun h => by simp at h, ?_⟩
  simp only [s_xC, hj, s_neB, decide_true, Bool.not_true, s_isB, Bool.false_eq_true, if_false]
  refine ⟨t, rfl, hn, fun h => by simp at h, ?_⟩
  simp only [s_xVar, List.getElem?_cons_zero, List.getElem?_cons_succ, s_xD, s_neD, s_clI, he, decide_true, Bool.not_true, s_isB, Bool.false_eq_true, if_false, s_sNext, true_and]
  exact h
theorem law_l17 {Z : EndsP} {x2 x3 x4 x5 x6 x8 x9 x10 x11 x12 : Option PV} {L : List Lik} {n : Int} (h1 : 1 ≤ n) (h2 : n ≤ (L.length : Int) + 1) (h : Z.rt (.bl true)) : l17 Z (lE x2 x3 x4 x5 x6 (some (.d (.lst (L.map likD)))) x8 x9 x10 x11 x12 (some (.d (.int n)))) := by
  simp only [s_sRet, s_xChain, s_xC, s_xVar, List.getElem?_cons_zero, List.getElem?_cons_succ, s_xD, s_leI, h1, decide_true, s_isB, if_true, s_xBin, s_xCall, s_aCons, s_aNil, s_rVar, s_xP, List.map_cons, List.map_nil, PV.dat_d, s_lenL, List.length_map, s_addI, h2]
  exact h
end K96
end

section
set_option Elab.async false
set_option linter.all false
set_option maxRecDepth 100000
set_option maxHeartbeats 2000000
namespace K96
open PySem PySem.Spec PyProof.Rows L2 PL
theorem nl_tree : ∀ (t : Tree) (n : Nat), 2 * tdep t + 2 ≤ n → D.nl n (treeD t) = true
  | .fin p, n, h => by
    obtain ⟨m, rfl⟩ : ∃ m, n = m + 1 := ⟨n - 1, by omega⟩
    simp [treeD]
  | .spl q a b, n, h => by
    unfold tdep at h
    obtain ⟨m, rfl⟩ : ∃ m, n = m + 2 := ⟨n - 2, by omega⟩
    have h1 := nl_tree a m (by omega)
    have h2 := nl_tree b m (by omega)
    cases q <;> simp [treeD, h1, h2]
theorem nodes_ends : ∀ t : Tree, nodes t + 1 = 2 * ends t
  | .fin _ => rfl
  | .spl _ a b => by
    have := nodes_ends a
    have := nodes_ends b
    unfold nodes ends
    omega
theorem noCell_of {fs : List Face} {ns : List Str} (h : FsOk fs ns) (no : ∀ a ∈ arrs ns.length, ∃ f ∈ fs, a ∉ lets f) : NoCell fs ns.length := fun i hi x hx => by
  obtain ⟨f, hf, nf⟩ := no _ (List.getElem_mem hi)
  exact nf ((lets_at h.n3 (by rw [(h.ok f hf).2]) (h.rw' f hf).len hi).mpr (row_ne (hx f hf)))
structure BestFacts (fs : List Face) (ns : List Str) (L : List Lik) (bt : Stt → Int × Tree) (N : Nat) (stt : List Stt) (Gd : Stt → Prop) : Prop where
  cl : Closed ns (gmark fs) Gd
  g0 : Gd (arrs ns.length, 1, 0)
  e : allGo fs ns (gmark fs) N [(arrs ns.length, 1, 0)] [] = some stt
  ok : BtOk fs ns (gmark fs) stt bt
  nd : stt.Nodup
  few : stt.length ≤ 2000
  mem : (arrs ns.length, (1 : Int), (0 : Int)) ∈ stt
  no : noC (metF ns fs) = true
  tok : TOk ns fs.length (bt (arrs ns.length, 1, 0)).2
  jud : judge fs (bt (arrs ns.length, 1, 0)).2 [] = true
  num : ((ends (bt (arrs ns.length, 1, 0)).2 : Nat) : Int) = (bt (arrs ns.length, 1, 0)).1
  nod : nodes (bt (arrs ns.length, 1, 0)).2 ≤ 1000
  pos : 1 ≤ (bt (arrs ns.length, 1, 0)).1
  le : (bt (arrs ns.length, 1, 0)).1 ≤ (L.length : Int) + 1
theorem best_facts {fs : List Face} {ns : List Str} (h : FsOk fs ns) (six : Six fs) {p : Nat} {st : List Stp} (e : ExEnd fs ns.length (some p, st)) : ∃ bt N stt Gd, BestFacts fs ns (likes ns st) bt N stt Gd := by
  have n3 := h.n3
  have m1 : 1 ≤ gmark fs ∧ gmark fs ≤ 6 := ⟨(gmark_b six).1, (gmark_b six).2.1⟩
  have no := no_right h e (fun z => by cases z)
  have nc := noCell_of h no
  obtain ⟨N, stt, a1, a2, a3, a4, a5, a6⟩ := all_ex (fs := fs) n3 m1 _ [(arrs ns.length, 1, 0)] [] (Nat.le_refl _) (fun s hs => by rw [List.mem_singleton.mp hs]; exact start_good m1.1) (fun s hs => by cases hs) List.nodup_nil (fun s hs => by cases hs)
  have g0 : Good ns.length (gmark fs) (arrs ns.length, 1, 0) := start_good m1.1
  obtain ⟨b1, b2, b3, b4⟩ := best_ok h six nc rfl 21 (arrs ns.length, 1, 0) g0 (by have := (wid_b g0 n3 m1).2; omega)
  obtain ⟨t1, t2, t3, t4, t5⟩ := likes_tree h e
  obtain ⟨kn, k1, k2, k3, k4, k5, k6⟩ := id e
  obtain ⟨f0, rest, ef, en⟩ := h.at0
  have ris : RisS ns := by
    have := (h.ok f0 (by rw [ef]; exact List.mem_cons_self ..)).1.ris
    rwa [en] at this
  obtain ⟨g1, g2, g3⟩ := likes_inv h ris.nodup k2
  have ln := likes_num h six nc rfl (L := likes ns st) k5 g1 (fun a ha hf => by
    have hm := getD_mem k5
    have ain : a ∈ arrs ns.length := by have := lets_sub ha; rw [(h.ok _ hm).2] at this; exact this
    have r := g2 a ain hf
    rw [told_none n3 (by rw [(h.ok _ hm).2]) k1 k6 a ha] at r
    cases r) (likes ns st) [] rfl
  have ea : (arrs ns.length).filter (fun a => fitsB ns a (lkF [])) = arrs ns.length := List.filter_eq_self.mpr fun a _ => rfl
  rw [ea] at ln
  have pos := num_pos h six nc rfl g0
  refine ⟨btS fs ns (gmark fs), N, stt, Good ns.length (gmark fs), closed n3 m1, g0, a1, ⟨fun s hs ne => ?_, fun s hs en => ?_, fun s hs en p hp => ?_, fun s hs => (a5 s hs).v n3 m1, fun s hs => ?_⟩, a4, good_few n3 m1 a4 a5, a2 _ (List.mem_singleton.mpr rfl), met_no h no, b2, b4 [] ⟨rfl, fun a ha _ => ha⟩, b1, ?_, pos, ln⟩
  · rcases ender_cases fs s with ⟨z, _⟩ | ⟨i, _, z, _⟩
    · exact absurd z ne
    · exact ⟨i, z, btS_fin z⟩
  · exact btS_spl n3 m1 (a5 s hs) en (parts_ne h six nc rfl (a5 s hs) en)
  · obtain ⟨q1, q2⟩ := a6 s hs en p hp
    obtain ⟨⟨_, w1⟩, _, w2⟩ := kids (a5 s hs) m1.1 hp
    exact ⟨⟨q1, w1⟩, q2, w2⟩
  · have wb := wid_b (a5 s hs) n3 m1
    obtain ⟨_, _, d, _⟩ := best_ok h six nc rfl 21 s (a5 s hs) (by omega)
    have := nl_tree (btS fs ns (gmark fs) s).2 399 (by omega)
    show D.nl (399 + 1) (.tup [.int _, treeD _]) = true
    simp only [s_nlT, List.all_cons, List.all_nil, s_nlI, this, Bool.and_self]
  · have := nodes_ends (btS fs ns (gmark fs) (arrs ns.length, 1, 0)).2
    omega
end K96
end

section
set_option Elab.async false
set_option linter.all false
set_option maxRecDepth 100000
set_option maxHeartbeats 2000000
namespace K96
open PySem PySem.Spec PyProof.Rows L2 PL LamX
section
variable {K : PySem.W.Frag} {w : World} {G F F' H H' : Hp} {ρ ρ2 : PEnv} {σ : L2.St}
theorem merge {t u : TXS} {V : TS} {Z : Ends} (h : tSeq (liftS K w (sSeq t u)) V Z σ H) : tSeq (liftS K w t) (tSeq (liftS K w u) V) Z σ H := liftS_seq { Z with nx := V Z } σ H h
theorem stageR {t : TXS} {U : TS} {Z : Ends} {C : PEnv → Prop} {k : D → Prop} (R : Rep K w G F ρ σ H) (ht : t { nx := C, rt := k } ρ) (h : ∀ F2 ρ2 σ2 H2, Gr G F F2 → C ρ2 → Rep K w G F2 ρ2 σ2 H2 → U Z σ2 H2) (hr : ∀ x v F' H', k x → Rp K w F' v x → Z.rt v H') : tSeq (liftS K w t) U Z σ H :=
  ⟨G, F, ρ, _, R, ht, fun F2 ρ2 σ2 H2 a g R2 => h F2 ρ2 σ2 H2 g a R2, fun _ _ _ _ a _ _ => a.elim, fun _ _ _ _ a _ _ => a.elim, fun x v F2 H2 a _ _ _ r => hr x v F2 H2 a r⟩
theorem Rep.plain (R : Rep K w G F ρ σ H) (len : ρ2.length = ρ.length) (sub : ∀ (i : Nat) (x : PV), ρ2[i]? = some (some x) → ρ[i]? = some (some x) ∧ ∃ d, x = PV.d d) (e : ExtN F F') (s : Same F' H') : Rep K w H' F' ρ2 σ H' := by
  refine ⟨Same.refl _, s, len.trans R.len, fun i pv q => ?_, fun i j p q v e1 _ o => ?_⟩
  · obtain ⟨h1, d, rfl⟩ := sub i pv q
    obtain ⟨v, h2, h3⟩ := R.at_ i _ h1
    exact ⟨v, h2, Rp.extN e h3⟩
  · obtain ⟨_, d, rfl⟩ := sub i p e1
    cases o
end
abbrev Tb (Pt : Addr) : List (Addr × Str) := [(Pt, lamN)]
def spLaw (K : PySem.W.Frag) (Pt : Addr) : Sp := fun vs H Q _ => ∃ (a : Addr) (ns : List Int), vs = [.ref a] ∧ SqL K H a (ns.map V.int) ∧ ns.length ≤ 1000 ∧ Tabs (Tb Pt) H ∧ ∀ H', Q (.bl true) H'
abbrev lB2 : TXS := sSeq (sSeq (sSeq (sSeq (sSeq (sSeq (sSeq (sSeq (sSeq (sSeq (sSeq l2 l3) l4) l5) l6) l7) l8) l9) l10) l11) l12) l13
def CB (ρ : PEnv) : Prop := ∃ (ns : List Str) (fs : List Face) (p : Nat) (st : List Stp) (x4 x5 x6 x8 x9 x10 x11 : Option PV), FsOk fs ns ∧ Six fs ∧ ExEnd fs ns.length (some p, st) ∧ ρ = lE (some (.d (.tup (ns.map D.str)))) (some (.d (facesD fs))) x4 x5 x6 (some (.d (.lst ((likes ns st).map likD)))) x8 x9 x10 x11 none none
theorem law_B : lB2 { nx := CB, rt := fun x => x = .bl true } (lE none none none none none none none none none none none none) := by
  simp only [s_sSeq]
  refine law_l2 fun ns hn => ?_
  dsimp only
  refine law_l3 hn fun fs hf six => ?_
  dsimp only
  refine law_l4 hf ?_
  obtain ⟨e1, e2⟩ := ex_law hf
  generalize lexGo fs (List.range 60) (iota ns.length) [] 0 = r at e1 e2 ⊢
  dsimp only
  refine law_l5 hf e1 ?_
  dsimp only
  refine law_l6 hf ?_
  dsimp only
  refine law_l7 hf fun x6 => ?_
  dsimp only
  refine law_l8 hf e2 (fun _ => rfl) fun ne => ?_
  obtain ⟨ro, st⟩ := r
  cases ro with
  | none => exact absurd rfl ne
  | some p =>
    obtain ⟨t1, t2, t3, t4, t5⟩ := likes_tree hf e2
    dsimp only
    refine law_l9 hf (law_no hf (no_right hf e2 ne)) ?_
    dsimp only
    refine law_l10 hf e2 ?_
    dsimp only
    refine law_l11 ?_
    dsimp only
    refine law_l12 fun x9 x10 x11 => ?_
    dsimp only
    refine law_l13 hf t3 t4 t5 ?_
    exact ⟨ns, fs, p, st, _, _, _, _, _, _, _, hf, six, e2, rfl⟩
theorem lE_sub {x2 x3 x4 x5 x6 x8 x9 x10 x11 x12 : Option PV} {a b : D} : ∀ (i : Nat) (x : PV), (lE none (some (.d a)) none none none (some (.d b)) none none none none none none)[i]? = some (some x) → (lE x2 (some (.d a)) x4 x5 x6 (some (.d b)) x8 x9 x10 x11 x12 x3)[i]? = some (some x) ∧ ∃ d, x = .d d
  | 0, x, h => by cases h
  | 1, x, h => by cases h; exact ⟨rfl, _, rfl⟩
  | 2, x, h => by cases h
  | 3, x, h => by cases h; exact ⟨rfl, _, rfl⟩
  | 4, x, h => by cases h
  | 5, x, h => by cases h
  | 6, x, h => by cases h
  | 7, x, h => by cases h; exact ⟨rfl, _, rfl⟩
  | 8, x, h => by cases h
  | 9, x, h => by cases h
  | 10, x, h => by cases h
  | 11, x, h => by cases h
  | 12, x, h => by cases h
  | 13, x, h => by cases h
  | 14, x, h => by cases h
  | i + 15, x, h => by simp at h
theorem lE_sub2 {a b c : D} : ∀ (i : Nat) (x : PV), (lE none (some (.d a)) none none none (some (.d b)) none none none none (some (.d c)) none)[i]? = some (some x) → (lE none (some (.d a)) none none none (some (.d b)) none none none none (some (.d c)) none)[i]? = some (some x) ∧ ∃ d, x = .d d
  | 0, x, h => by cases h
  | 1, x, h => by cases h; exact ⟨rfl, _, rfl⟩
  | 2, x, h => by cases h
  | 3, x, h => by cases h; exact ⟨rfl, _, rfl⟩
  | 4, x, h => by cases h
  | 5, x, h => by cases h
  | 6, x, h => by cases h
  | 7, x, h => by cases h; exact ⟨rfl, _, rfl⟩
  | 8, x, h => by cases h
  | 9, x, h => by cases h
  | 10, x, h => by cases h
  | 11, x, h => by cases h
  | 12, x, h => by cases h; exact ⟨rfl, _, rfl⟩
  | 13, x, h => by cases h
  | 14, x, h => by cases h
  | i + 15, x, h => by simp at h
theorem read_law {K : PySem.W.Frag} {w : World} {Pt : Addr} {vs : List V} {H : Hp} {Q : VK} {E : XK} (hsp : spLaw K Pt vs H Q E) :
    tSeq (tAsg (tCall (spPot K) [] C8.E0 (tCons (tVar 0) tNil)) (gName 1)) (tSeq (liftS K w l2) (tSeq (liftS K w l3) (tSeq (liftS K w l4) (tSeq (liftS K w l5) (tSeq (liftS K w l6) (tSeq (liftS K w l7) (tSeq (liftS K w l8) (tSeq (liftS K w l9) (tSeq (liftS K w l10) (tSeq (liftS K w l11) (tSeq (liftS K w l12) (tSeq (liftS K w l13)
      (tSeq (tAsg (tCall (spT K w (Tb Pt) 1 T_split_tree) [] C8.E0 (tCons (tVar 3) tNil)) (gName 12)) (tSeq (tAsg (tCall (spT K w (Tb Pt) 1 T_fewest_ends) [] C8.E0 (tCons (tVar 3) tNil)) (gName 13)) (tSeq (liftS K w l16) (liftS K w l17)))))))))))))))) { nx := fun _ H' => Q .non H', rt := Q } (L2.start ["script", "pot", "names", "many", "due", "face", "other", "likes", "tree", "x", "y", "place", "best", "number", "step"] vs) H := by
  obtain ⟨a, is, rfl, hS, hl, tabs, hq⟩ := hsp
  refine ⟨.ref a, rfl, a, is, rfl, hS, hl, fun p l ms H1 same hp hl npl gp gl => ?_⟩
  have R1 : Rep K w H1 H1 (lE none none none none none none none none none none none none) ((L2.start ["script", "pot", "names", "many", "due", "face", "other", "likes", "tree", "x", "y", "place", "best", "number", "step"] [V.ref a]).set 1 (some (.ref p))) H1 := by
    refine ⟨Same.refl _, Same.refl _, rfl, fun i pv e => ?_, fun i j x y v e1 _ o => ?_⟩
    · match i, e with
      | 1, e => cases e; exact ⟨.ref p, rfl, .pot gp gl⟩
      | 0, e => cases e
      | 2, e => cases e
      | 3, e => cases e
      | 4, e => cases e
      | 5, e => cases e
      | 6, e => cases e
      | 7, e => cases e
      | 8, e => cases e
      | 9, e => cases e
      | 10, e => cases e
      | 11, e => cases e
      | 12, e => cases e
      | 13, e => cases e
      | 14, e => cases e
      | i + 15, e => simp at e
    · match i, e1 with
      | 1, e1 => cases e1; cases o
      | 0, e1 => cases e1
      | 2, e1 => cases e1
      | 3, e1 => cases e1
      | 4, e1 => cases e1
      | 5, e1 => cases e1
      | 6, e1 => cases e1
      | 7, e1 => cases e1
      | 8, e1 => cases e1
      | 9, e1 => cases e1
      | 10, e1 => cases e1
      | 11, e1 => cases e1
      | 12, e1 => cases e1
      | 13, e1 => cases e1
      | 14, e1 => cases e1
      | i + 15, e1 => simp at e1
  have tabs1 := tabs_same tabs same
  refine merge (merge (merge (merge (merge (merge (merge (merge (merge (merge (merge ?_))))))))))
  refine stageR R1 law_B (fun F2 ρ2 σ2 H2 g2 hC R2 => ?_) (fun x v F' H' hx r => by
    subst hx; cases r; exact hq H')
  obtain ⟨ns, fs, p, st, x4, x5, x6, x8, x9, x10, x11, hf, six, e, rfl⟩ := hC
  obtain ⟨bt, N, stt, Gd, bf⟩ := best_facts hf six e
  have tabs2 := tabs_same tabs1 R2.gh
  obtain ⟨v3, s3, r3⟩ := R2.at_ 3 _ rfl
  have r3 : Rp K w F2 v3 (facesD fs) := r3
  refine ⟨v3, s3, F2, [facesD fs], fun x => x = treeD (bt (arrs ns.length, 1, 0)).2, R2.fh, .cons r3 .nil, rfl, ⟨fs, ns, N, stt, Gd, bt, rfl, hf, bf.no, bf.cl, bf.g0, bf.e, bf.ok, bf.nd, bf.few, bf.mem, atI_one, rfl⟩, tabs2, ?_⟩
  rintro x u F3 H3 rfl e1 e2 s3' rp3 tabs3
  have R3 := (K96.Rep.plain (ρ2 := lE none (some (.d (facesD fs))) none none none (some (.d (.lst ((likes ns st).map likD)))) none none none none none none) R2 rfl lE_sub e1 s3').setD 12 rp3
  obtain ⟨v4, s4, r4⟩ := R3.at_ 3 _ rfl
  have r4 : Rp K w F3 v4 (facesD fs) := r4
  refine ⟨v4, s4, F3, [facesD fs], fun x => x = .int (bt (arrs ns.length, 1, 0)).1, R3.fh, .cons r4 .nil, rfl, ⟨fs, ns, N, stt, Gd, bt, rfl, hf, bf.no, bf.cl, bf.g0, bf.e, bf.ok, bf.nd, bf.few, bf.mem, atI_zero, rfl⟩, tabs3, ?_⟩
  rintro x u F4 H4 rfl e3 e4 s4' rp4 tabs4
  have R4 := (K96.Rep.plain (ρ2 := lE none (some (.d (facesD fs))) none none none (some (.d (.lst ((likes ns st).map likD)))) none none none none (some (.d (treeD (bt (arrs ns.length, 1, 0)).2))) none) R3 rfl lE_sub2 e3 s4').setD 13 rp4
  refine liftS_seq _ _ _ ⟨H4, F4, _, { nx := fun _ => False, rt := fun x => x = .bl true }, R4, ?_, ?_⟩
  · show sSeq l16 l17 _ (lE none (some (.d (facesD fs))) none none none (some (.d (.lst ((likes ns st).map likD)))) none none none none (some (.d (treeD (bt (arrs ns.length, 1, 0)).2))) (some (.d (.int (bt (arrs ns.length, 1, 0)).1))))
    simp only [s_sSeq]
    refine law_l16 hf bf.nod bf.tok bf.jud bf.num ?_
    dsimp only
    exact law_l17 bf.pos bf.le rfl
  · exact ⟨fun _ _ _ _ a _ _ => a.elim, fun _ _ _ _ a _ _ => a.elim, fun _ _ _ _ a _ _ => a.elim, fun x v F' H' hx _ _ _ r => by
      subst hx; cases r; exact hq H'⟩
variable {P : Program} {w : World} {K : PySem.W.Frag} {mg : Str → Option Value} {base : Heap} {c Pt : Addr}
abbrev N_law : List Str := ["script", "pot", "names", "many", "due", "face", "other", "likes", "tree", "x", "y", "place", "best", "number", "step"]
theorem sc_law : FnScope N_law ["script"] (defScope s_law) := ⟨rfl, rfl, rfl, by decide +kernel, rfl, by decide +kernel, by decide +kernel⟩
theorem raw_law (ht : HT P w K mg base c Pt) {f : Addr} {fd : FuncData} (F : FunD K "law" "law" (defArgs s_law) (defBody s_law) (defScope s_law) [] [] f fd) : FnOk P w K mg base CX0 9 f fd ["script"] (spLaw K Pt) := by
  have h := ht.hd
  obtain ⟨fp, fpd, Fp, mp, kp, bp⟩ := ok__law_pot h
  obtain ⟨fs, fsd, Fs, ms, ks, bs⟩ := ok_split_tree ht
  obtain ⟨ff, ffd, Ff, mf, kf, bf⟩ := ok_fewest_ends ht
  have C__law_draw := ok__law_draw h
  have C__law_drawn_face := ok__law_drawn_face h
  have C__law_exchange := ok__law_exchange h
  have C__law_fit := ok__law_fit h
  have C__law_likes := ok__law_likes h
  have C__law_meet := ok__law_meet h
  have C__law_names := ok__law_names h
  have C__law_no_cell := ok__law_no_cell h
  have C_ends_of := ok_ends_of h
  have C_exchange := ok_exchange h
  have C_judge_split := ok_judge_split h
  refine F.ok sc_law (fun vs H Q E ⟨a, ns, e, _⟩ => by rw [e]; rfl) (fun cdv A outer s H vs Q E hr hsp => ?_)
  have hr0 : Room 1 (A.deeper (envOfC "law" (defScope s_law) s.heap.objs.size f cdv)) := hr.mono (by decide)
  refine ⟨_, PSs.nox (pss_cons (ps_set (i := 1) sc_law.nd rfl (Or.inr rfl) (pe_call Fp hr0 rfl mp kp bp .nil pass0 (pa_cons (pv 0) pa_nil)))
      (pss_cons (pxs_set (i := 2) sc_law.nd rfl (Or.inr rfl) (px_call C__law_names hr (by decide) rfl (pxa_cons (pr_var 1) (pxa_cons (pr_of (px_bin op_addD px_int (px_call C__law_draw hr (by decide) rfl (pxa_cons (pr_var 1) (pxa_cons (pr_of px_int) pxa_nil))))) pxa_nil))))
      (pss_cons (pxs_set (i := 3) sc_law.nd rfl (Or.inl rfl) (px_callTy cr_tuple rfl h.b_tuple boot_tuple (pxa_cons (pr_of (px_of (pf_lc rfl sc_law.nd (pxj_r1 rfl h.b_range (px_bin op_addD px_int (px_call C__law_draw hr (by decide) rfl (pxa_cons (pr_var 1) (pxa_cons (pr_of px_int) pxa_nil))))) (blkOk_by (own := [("step", 14)]) (N := N_law) (sc := defScope s_law) (by decide +kernel)) (by decide) (fun _ _ _ _ _ => (ct_name (i := 14) sc_law.nd rfl (Or.inl rfl) (.inr rfl))) (fun _ _ _ _ _ => pxts_nil) (fun _ _ _ _ _ => (px_call C__law_drawn_face hr (by decide) rfl (pxa_cons (pr_var 1) (pxa_cons (pr_var 2) pxa_nil))))))) pxa_nil)))
      (pss_cons (pxs_set (i := 4) sc_law.nd rfl (Or.inl rfl) (px_call C__law_exchange hr (by decide) rfl (pxa_cons (pr_var 3) pxa_nil)))
      (pss_cons (pxs_if (pxt_cmp (op_neD' (u64 hr)) (px_call C_exchange hr (by decide) rfl (pxa_cons (pr_var 3) pxa_nil)) (px_tup (pxa_cons (pr_of (px_ix (u65 hr) (pr_var 4) px_int)) (pxa_cons (pr_of (px_ix (u65 hr) (pr_var 4) px_int)) pxa_nil)))) (pxs_one (pxs_ret px_bl)) pxs_nil)
      (pss_cons (pxs_set (i := 5) sc_law.nd rfl (Or.inl rfl) (px_ix (u65 hr) (pr_var 3) px_int))
      (pss_cons (pxs_for PassesOwn.never rfl (pxi_v 3) (pxg_name (i := 6) sc_law.nd rfl (Or.inl rfl)) (pxs_one (pxs_set (i := 5) sc_law.nd rfl (Or.inl rfl) (px_call C__law_meet hr (by decide) rfl (pxa_cons (pr_var 5) (pxa_cons (pr_var 6) pxa_nil))))))
      (pss_cons (pxs_if (pxt_cmp (op_eqD' (u64 hr)) (px_ix (u65 hr) (pr_var 4) px_int) px_str) (pxs_one (pxs_ret (px_or (px_not (pr_of (px_call C__law_no_cell hr (by decide) rfl (pxa_cons (pr_var 5) pxa_nil)))) (px_one (px_inB (u65 hr) px_bl (pr_of (px_of (pf_lc rfl sc_law.nd (pxj_v 3) (blkOk_by (own := [("other", 6)]) (N := N_law) (sc := defScope s_law) (by decide +kernel)) (by decide) (fun _ _ _ _ _ => (ct_name (i := 6) sc_law.nd rfl (Or.inl rfl) (.inr rfl))) (fun _ _ _ _ _ => pxts_nil) (fun _ _ _ _ _ => (px_call C__law_fit hr (by decide) rfl (pxa_cons (pr_var 6) pxa_nil))))))))))) pxs_nil)
      (pss_cons (pxs_if (pxt_not (pxt_val (px_call C__law_no_cell hr (by decide) rfl (pxa_cons (pr_var 5) pxa_nil)))) (pxs_one (pxs_ret px_bl)) pxs_nil)
      (pss_cons (pxs_set (i := 7) sc_law.nd rfl (Or.inl rfl) (px_call C__law_likes hr (by decide) rfl (pxa_cons (pr_of (px_ix (u65 hr) (pr_var 4) px_int)) (pxa_cons (pr_var 2) pxa_nil))))
      (pss_cons (pxs_set (i := 8) sc_law.nd rfl (Or.inl rfl) (px_tup (pxa_cons (pr_of px_str) (pxa_cons (pr_of (px_ix (u65 hr) (pr_var 4) px_int)) pxa_nil))))
      (pss_cons (pxs_for PassesOwn.never rfl (pxi_rev rfl h.b_reversed (px_var 7)) (pxg_tup (is := [9, 10, 11]) rfl (pgs_cons (pg_name (i := 9) sc_law.nd rfl (Or.inl rfl)) (pgs_cons (pg_name (i := 10) sc_law.nd rfl (Or.inl rfl)) (pgs_cons (pg_name (i := 11) sc_law.nd rfl (Or.inl rfl)) pgs_nil)))) (pxs_one (pxs_set (i := 8) sc_law.nd rfl (Or.inl rfl) (px_tup (pxa_cons (pr_of px_str) (pxa_cons (pr_of (px_tup (pxa_cons (pr_of px_str) (pxa_cons (pr_var 9) (pxa_cons (pr_var 10) pxa_nil))))) (pxa_cons (pr_of (px_tup (pxa_cons (pr_var 8) (pxa_cons (pr_of (px_tup (pxa_cons (pr_of px_str) (pxa_cons (pr_var 11) pxa_nil)))) pxa_nil)))) pxa_nil)))))))
      (pss_cons (pxs_if (pxt_w (pxw_or (pxt_cmp op_isNotB (px_call C_judge_split hr (by decide) rfl (pxa_cons (pr_var 8) (pxa_cons (pr_var 3) pxa_nil))) px_bl) (pxw_or1 (pxt_cmp (op_neD' (u64 hr)) (px_call C_ends_of hr (by decide) rfl (pxa_cons (pr_var 8) pxa_nil)) (px_bin op_addD (px_callB cr_len rfl h.b_len boot_len (pxa_cons (pr_var 7) pxa_nil)) px_int))))) (pxs_one (pxs_ret px_bl)) pxs_nil)
      (pss_cons (ps_set (i := 12) sc_law.nd rfl (Or.inl rfl) (pe_call Fs hr rfl ms ks bs .nil pass0 (pa_cons (pv 3) pa_nil)))
      (pss_cons (ps_set (i := 13) sc_law.nd rfl (Or.inl rfl) (pe_call Ff hr rfl mf kf bf .nil pass0 (pa_cons (pv 3) pa_nil)))
      (pss_cons (pxs_if (pxt_w (pxw_or (pxt_cmp op_isNotB (px_call C_judge_split hr (by decide) rfl (pxa_cons (pr_var 12) (pxa_cons (pr_var 3) pxa_nil))) px_bl) (pxw_or1 (pxt_cmp (op_neD' (u64 hr)) (px_call C_ends_of hr (by decide) rfl (pxa_cons (pr_var 12) pxa_nil)) (px_var 13))))) (pxs_one (pxs_ret px_bl)) pxs_nil)
      (pss_one (pxs_ret (px_chain op_leD op_leD px_int (px_var 13) (px_bin op_addD (px_callB cr_len rfl h.b_len boot_len (pxa_cons (pr_var 7) pxa_nil)) px_int)))))))))))))))))))), ?_⟩
  exact read_law hsp
end K96
end

section
set_option Elab.async false
set_option linter.all false
set_option maxRecDepth 100000
set_option maxHeartbeats 0
namespace K96
open PySem PySem.Spec PyProof.Rows L2 PL
def d_is_whole : He.DefD := ⟨("is_whole", none), "is_whole", "is_whole", defArgs s_is_whole, defBody s_is_whole, defScope s_is_whole, [], []⟩
def d_is_number : He.DefD := ⟨("is_number", none), "is_number", "is_number", defArgs s_is_number, defBody s_is_number, defScope s_is_number, [], []⟩
def d_is_name_text : He.DefD := ⟨("is_name_text", none), "is_name_text", "is_name_text", defArgs s_is_name_text, defBody s_is_name_text, defScope s_is_name_text, [], []⟩
def d_is_name_row : He.DefD := ⟨("is_name_row", none), "is_name_row", "is_name_row", defArgs s_is_name_row, defBody s_is_name_row, defScope s_is_name_row, [], []⟩
def d_is_rising : He.DefD := ⟨("is_rising", none), "is_rising", "is_rising", defArgs s_is_rising, defBody s_is_rising, defScope s_is_rising, [], []⟩
def d_is_pair : He.DefD := ⟨("is_pair", none), "is_pair", "is_pair", defArgs s_is_pair, defBody s_is_pair, defScope s_is_pair, [], []⟩
def d_is_triple : He.DefD := ⟨("is_triple", none), "is_triple", "is_triple", defArgs s_is_triple, defBody s_is_triple, defScope s_is_triple, [], []⟩
def d_class_total : He.DefD := ⟨("class_total", none), "class_total", "class_total", defArgs s_class_total, defBody s_class_total, defScope s_class_total, [], []⟩
def d_all_arrangements : He.DefD := ⟨("all_arrangements", none), "all_arrangements", "all_arrangements", defArgs s_all_arrangements, defBody s_all_arrangements, defScope s_all_arrangements, [], []⟩
def d_numbered : He.DefD := ⟨("numbered", none), "numbered", "numbered", defArgs s_numbered, defBody s_numbered, defScope s_numbered, [], []⟩
def d_finest_below : He.DefD := ⟨("finest_below", none), "finest_below", "finest_below", defArgs s_finest_below, defBody s_finest_below, defScope s_finest_below, [], []⟩
def d_refines : He.DefD := ⟨("refines", none), "refines", "refines", defArgs s_refines, defBody s_refines, defScope s_refines, [], []⟩
def d_tidied : He.DefD := ⟨("tidied", none), "tidied", "tidied", defArgs s_tidied, defBody s_tidied, defScope s_tidied, [], []⟩
def d_has : He.DefD := ⟨("has", none), "has", "has", defArgs s_has, defBody s_has, defScope s_has, [], []⟩
def d_common_sizes : He.DefD := ⟨("common_sizes", none), "common_sizes", "common_sizes", defArgs s_common_sizes, defBody s_common_sizes, defScope s_common_sizes, [], []⟩
def d_least_of : He.DefD := ⟨("least_of", none), "least_of", "least_of", defArgs s_least_of, defBody s_least_of, defScope s_least_of, [], []⟩
def d_from_to : He.DefD := ⟨("from_to", none), "from_to", "from_to", defArgs s_from_to, defBody s_from_to, defScope s_from_to, [], []⟩
def d_is_sizes : He.DefD := ⟨("is_sizes", none), "is_sizes", "is_sizes", defArgs s_is_sizes, defBody s_is_sizes, defScope s_is_sizes, [], []⟩
def d_full_row : He.DefD := ⟨("full_row", none), "full_row", "full_row", defArgs s_full_row, defBody s_full_row, defScope s_full_row, [], []⟩
def d_face_with : He.DefD := ⟨("face_with", none), "face_with", "face_with", defArgs s_face_with, defBody s_face_with, defScope s_face_with, [], []⟩
def d_whole_face : He.DefD := ⟨("whole_face", none), "whole_face", "whole_face", defArgs s_whole_face, defBody s_whole_face, defScope s_whole_face, [], []⟩
def d_meet_faces : He.DefD := ⟨("meet_faces", none), "meet_faces", "meet_faces", defArgs s_meet_faces, defBody s_meet_faces, defScope s_meet_faces, [], []⟩
def d_no_cells : He.DefD := ⟨("no_cells", none), "no_cells", "no_cells", defArgs s_no_cells, defBody s_no_cells, defScope s_no_cells, [], []⟩
def d_is_face : He.DefD := ⟨("is_face", none), "is_face", "is_face", defArgs s_is_face, defBody s_is_face, defScope s_is_face, [], []⟩
def d_is_region : He.DefD := ⟨("is_region", none), "is_region", "is_region", defArgs s_is_region, defBody s_is_region, defScope s_is_region, [], []⟩
def d_are_names : He.DefD := ⟨("are_names", none), "are_names", "are_names", defArgs s_are_names, defBody s_are_names, defScope s_are_names, [], []⟩
def d_is_question : He.DefD := ⟨("is_question", none), "is_question", "is_question", defArgs s_is_question, defBody s_is_question, defScope s_is_question, [], []⟩
def d_decided_board : He.DefD := ⟨("decided_board", none), "decided_board", "decided_board", defArgs s_decided_board, defBody s_decided_board, defScope s_decided_board, [], []⟩
def d_answers : He.DefD := ⟨("answers", none), "answers", "answers", defArgs s_answers, defBody s_answers, defScope s_answers, [], []⟩
def d_is_shared_question : He.DefD := ⟨("is_shared_question", none), "is_shared_question", "is_shared_question", defArgs s_is_shared_question, defBody s_is_shared_question, defScope s_is_shared_question, [], []⟩
def d_let_by : He.DefD := ⟨("let_by", none), "let_by", "let_by", defArgs s_let_by, defBody s_let_by, defScope s_let_by, [], []⟩
def d_told_by : He.DefD := ⟨("told_by", none), "told_by", "told_by", defArgs s_told_by, defBody s_told_by, defScope s_told_by, [], []⟩
def d_passed_on : He.DefD := ⟨("passed_on", none), "passed_on", "passed_on", defArgs s_passed_on, defBody s_passed_on, defScope s_passed_on, [], []⟩
def d_are_faces : He.DefD := ⟨("are_faces", none), "are_faces", "are_faces", defArgs s_are_faces, defBody s_are_faces, defScope s_are_faces, [], []⟩
def d_exchange : He.DefD := ⟨("exchange", none), "exchange", "exchange", defArgs s_exchange, defBody s_exchange, defScope s_exchange, [], []⟩
def d_bounds_of : He.DefD := ⟨("bounds_of", none), "bounds_of", "bounds_of", defArgs s_bounds_of, defBody s_bounds_of, defScope s_bounds_of, [], []⟩
def d_sizes_between : He.DefD := ⟨("sizes_between", none), "sizes_between", "sizes_between", defArgs s_sizes_between, defBody s_sizes_between, defScope s_sizes_between, [], []⟩
def d_fits : He.DefD := ⟨("fits", none), "fits", "fits", defArgs s_fits, defBody s_fits, defScope s_fits, [], []⟩
def d_face_keeping : He.DefD := ⟨("face_keeping", none), "face_keeping", "face_keeping", defArgs s_face_keeping, defBody s_face_keeping, defScope s_face_keeping, [], []⟩
def d_met_faces : He.DefD := ⟨("met_faces", none), "met_faces", "met_faces", defArgs s_met_faces, defBody s_met_faces, defScope s_met_faces, [], []⟩
def d_greatest_mark : He.DefD := ⟨("greatest_mark", none), "greatest_mark", "greatest_mark", defArgs s_greatest_mark, defBody s_greatest_mark, defScope s_greatest_mark, [], []⟩
def d_start_state : He.DefD := ⟨("start_state", none), "start_state", "start_state", defArgs s_start_state, defBody s_start_state, defScope s_start_state, [], []⟩
def d_has_some : He.DefD := ⟨("has_some", none), "has_some", "has_some", defArgs s_has_some, defBody s_has_some, defScope s_has_some, [], []⟩
def d_is_ended : He.DefD := ⟨("is_ended", none), "is_ended", "is_ended", defArgs s_is_ended, defBody s_is_ended, defScope s_is_ended, [], []⟩
def d_ender : He.DefD := ⟨("ender", none), "ender", "ender", defArgs s_ender, defBody s_ender, defScope s_ender, [], []⟩
def d_name_partings : He.DefD := ⟨("name_partings", none), "name_partings", "name_partings", defArgs s_name_partings, defBody s_name_partings, defScope s_name_partings, [], []⟩
def d_size_partings : He.DefD := ⟨("size_partings", none), "size_partings", "size_partings", defArgs s_size_partings, defBody s_size_partings, defScope s_size_partings, [], []⟩
def d_partings : He.DefD := ⟨("partings", none), "partings", "partings", defArgs s_partings, defBody s_partings, defScope s_partings, [], []⟩
def d_width : He.DefD := ⟨("width", none), "width", "width", defArgs s_width, defBody s_width, defScope s_width, [], []⟩
def d_all_states : He.DefD := ⟨("all_states", none), "all_states", "all_states", defArgs s_all_states, defBody s_all_states, defScope s_all_states, [], []⟩
def d_check_split_faces : He.DefD := ⟨("check_split_faces", none), "check_split_faces", "check_split_faces", defArgs s_check_split_faces, defBody s_check_split_faces, defScope s_check_split_faces, [], []⟩
def d_best_parting : He.DefD := ⟨("best_parting", none), "best_parting", "best_parting", defArgs s_best_parting, defBody s_best_parting, defScope s_best_parting, [], []⟩
def d_best_trees : He.DefD := ⟨("best_trees", none), "best_trees", "best_trees", defArgs s_best_trees, defBody s_best_trees, defScope s_best_trees, [], []⟩
def d_fewest_of : He.DefD := ⟨("fewest_of", none), "fewest_of", "fewest_of", defArgs s_fewest_of, defBody s_fewest_of, defScope s_fewest_of, [], []⟩
def d_split_tree : He.DefD := ⟨("split_tree", none), "split_tree", "split_tree", defArgs s_split_tree, defBody s_split_tree, defScope s_split_tree, [], []⟩
def d_fewest_ends : He.DefD := ⟨("fewest_ends", none), "fewest_ends", "fewest_ends", defArgs s_fewest_ends, defBody s_fewest_ends, defScope s_fewest_ends, [], []⟩
def d_ends_of : He.DefD := ⟨("ends_of", none), "ends_of", "ends_of", defArgs s_ends_of, defBody s_ends_of, defScope s_ends_of, [], []⟩
def d_split_answers : He.DefD := ⟨("split_answers", none), "split_answers", "split_answers", defArgs s_split_answers, defBody s_split_answers, defScope s_split_answers, [], []⟩
def d_is_split_end : He.DefD := ⟨("is_split_end", none), "is_split_end", "is_split_end", defArgs s_is_split_end, defBody s_is_split_end, defScope s_is_split_end, [], []⟩
def d_judge_split : He.DefD := ⟨("judge_split", none), "judge_split", "judge_split", defArgs s_judge_split, defBody s_judge_split, defScope s_judge_split, [], []⟩
def d__law_pot : He.DefD := ⟨("_law_pot", none), "_law_pot", "_law_pot", defArgs s__law_pot, defBody s__law_pot, defScope s__law_pot, [], []⟩
def d__law_draw : He.DefD := ⟨("_law_draw", none), "_law_draw", "_law_draw", defArgs s__law_draw, defBody s__law_draw, defScope s__law_draw, [], []⟩
def d__law_some_names : He.DefD := ⟨("_law_some_names", none), "_law_some_names", "_law_some_names", defArgs s__law_some_names, defBody s__law_some_names, defScope s__law_some_names, [], []⟩
def d__law_names : He.DefD := ⟨("_law_names", none), "_law_names", "_law_names", defArgs s__law_names, defBody s__law_names, defScope s__law_names, [], []⟩
def d__law_arrangements : He.DefD := ⟨("_law_arrangements", none), "_law_arrangements", "_law_arrangements", defArgs s__law_arrangements, defBody s__law_arrangements, defScope s__law_arrangements, [], []⟩
def d__law_has : He.DefD := ⟨("_law_has", none), "_law_has", "_law_has", defArgs s__law_has, defBody s__law_has, defScope s__law_has, [], []⟩
def d__law_row_of : He.DefD := ⟨("_law_row_of", none), "_law_row_of", "_law_row_of", defArgs s__law_row_of, defBody s__law_row_of, defScope s__law_row_of, [], []⟩
def d__law_meet_row : He.DefD := ⟨("_law_meet_row", none), "_law_meet_row", "_law_meet_row", defArgs s__law_meet_row, defBody s__law_meet_row, defScope s__law_meet_row, [], []⟩
def d__law_meet : He.DefD := ⟨("_law_meet", none), "_law_meet", "_law_meet", defArgs s__law_meet, defBody s__law_meet, defScope s__law_meet, [], []⟩
def d__law_no_cell : He.DefD := ⟨("_law_no_cell", none), "_law_no_cell", "_law_no_cell", defArgs s__law_no_cell, defBody s__law_no_cell, defScope s__law_no_cell, [], []⟩
def d__law_same_marks : He.DefD := ⟨("_law_same_marks", none), "_law_same_marks", "_law_same_marks", defArgs s__law_same_marks, defBody s__law_same_marks, defScope s__law_same_marks, [], []⟩
def d__law_drawn_face : He.DefD := ⟨("_law_drawn_face", none), "_law_drawn_face", "_law_drawn_face", defArgs s__law_drawn_face, defBody s__law_drawn_face, defScope s__law_drawn_face, [], []⟩
def d__law_met : He.DefD := ⟨("_law_met", none), "_law_met", "_law_met", defArgs s__law_met, defBody s__law_met, defScope s__law_met, [], []⟩
def d__law_lets : He.DefD := ⟨("_law_lets", none), "_law_lets", "_law_lets", defArgs s__law_lets, defBody s__law_lets, defScope s__law_lets, [], []⟩
def d__law_told : He.DefD := ⟨("_law_told", none), "_law_told", "_law_told", defArgs s__law_told, defBody s__law_told, defScope s__law_told, [], []⟩
def d__law_exchange : He.DefD := ⟨("_law_exchange", none), "_law_exchange", "_law_exchange", defArgs s__law_exchange, defBody s__law_exchange, defScope s__law_exchange, [], []⟩
def d__law_fit : He.DefD := ⟨("_law_fit", none), "_law_fit", "_law_fit", defArgs s__law_fit, defBody s__law_fit, defScope s__law_fit, [], []⟩
def d__law_likes : He.DefD := ⟨("_law_likes", none), "_law_likes", "_law_likes", defArgs s__law_likes, defBody s__law_likes, defScope s__law_likes, [], []⟩
def d_law : He.DefD := ⟨("law", none), "law", "law", defArgs s_law, defBody s_law, defScope s_law, [], []⟩
def fn0 : List He.DefD := [d_is_whole, d_is_number, d_is_name_text, d_is_name_row, d_is_rising, d_is_pair, d_is_triple, d_class_total, d_all_arrangements, d_numbered, d_finest_below, d_refines, d_tidied, d_has, d_common_sizes, d_least_of, d_from_to, d_is_sizes, d_full_row, d_face_with, d_whole_face, d_meet_faces, d_no_cells, d_is_face, d_is_region, d_are_names, d_is_question, d_decided_board, d_answers, d_is_shared_question]
def fn1 : List He.DefD := [d_let_by, d_told_by, d_passed_on, d_are_faces, d_exchange, d_bounds_of, d_sizes_between, d_fits, d_face_keeping, d_met_faces, d_greatest_mark, d_start_state, d_has_some, d_is_ended, d_ender, d_name_partings, d_size_partings, d_partings, d_width, d_all_states, d_check_split_faces, d_best_parting, d_best_trees, d_fewest_of, d_split_tree, d_fewest_ends, d_ends_of, d_split_answers, d_is_split_end, d_judge_split]
def fn2 : List He.DefD := [d__law_pot, d__law_draw, d__law_some_names, d__law_names, d__law_arrangements, d__law_has, d__law_row_of, d__law_meet_row, d__law_meet, d__law_no_cell, d__law_same_marks, d__law_drawn_face, d__law_met, d__law_lets, d__law_told, d__law_exchange, d__law_fit, d__law_likes, d_law]
def fn : List He.DefD := fn0 ++ fn1 ++ fn2
def fa0 : List He.Fa := [.glo "is_whole", .glo "is_number", .glo "is_name_text", .glo "is_name_row", .glo "is_rising", .glo "is_pair", .glo "is_triple", .glo "class_total", .glo "all_arrangements", .glo "numbered", .glo "finest_below", .glo "refines", .glo "tidied", .glo "has", .glo "common_sizes", .glo "least_of", .glo "from_to", .glo "is_sizes", .glo "full_row", .glo "face_with", .glo "whole_face", .glo "meet_faces", .glo "no_cells", .glo "is_face", .glo "is_region", .glo "are_names", .glo "is_question", .glo "decided_board", .glo "answers", .glo "is_shared_question"]
def fa1 : List He.Fa := [.glo "let_by", .glo "told_by", .glo "passed_on", .glo "are_faces", .glo "exchange", .glo "bounds_of", .glo "sizes_between", .glo "fits", .glo "face_keeping", .glo "met_faces", .glo "greatest_mark", .glo "start_state", .glo "has_some", .glo "is_ended", .glo "ender", .glo "name_partings", .glo "size_partings", .glo "partings", .glo "width", .glo "all_states", .glo "check_split_faces", .glo "best_parting", .glo "best_trees", .glo "fewest_of", .glo "split_tree", .glo "fewest_ends", .glo "ends_of", .glo "split_answers", .glo "is_split_end", .glo "judge_split"]
def fa2 : List He.Fa := [.glo "_law_pot", .glo "_law_draw", .glo "_law_some_names", .glo "_law_names", .glo "_law_arrangements", .glo "_law_has", .glo "_law_row_of", .glo "_law_meet_row", .glo "_law_meet", .glo "_law_no_cell", .glo "_law_same_marks", .glo "_law_drawn_face", .glo "_law_met", .glo "_law_lets", .glo "_law_told", .glo "_law_exchange", .glo "_law_fit", .glo "_law_likes", .glo "law", .free "abs", .free "bool", .free "int", .free "isinstance", .free "len", .free "list", .free "max", .free "min", .free "range", .free "reversed", .free "set"]
def fa3 : List He.Fa := [.free "sorted", .free "str", .free "tuple", .free "zip", .str "SMALL" "abcdefghijklmnopqrstuvwxyz", .str "FIGURES" "0123456789"]
def fa : List He.Fa := fa0 ++ fa1 ++ fa2 ++ fa3
def tf : List He.Defn := [("best_trees", none)]
def lo0 : List Str := ["__name__", "HouseError", "BadValue", "SMALL", "FIGURES", "is_whole", "is_number", "is_name_text", "is_name_row", "is_rising", "is_pair", "is_triple", "class_total", "all_arrangements", "numbered", "finest_below", "refines", "tidied", "has", "common_sizes", "least_of", "from_to", "is_sizes", "full_row", "face_with", "whole_face", "meet_faces", "no_cells", "is_face", "is_region"]
def lo1 : List Str := ["are_names", "is_question", "decided_board", "answers", "is_shared_question", "let_by", "told_by", "passed_on", "are_faces", "exchange", "bounds_of", "sizes_between", "fits", "face_keeping", "met_faces", "greatest_mark", "start_state", "has_some", "is_ended", "ender", "name_partings", "size_partings", "partings", "width", "all_states", "check_split_faces", "best_parting", "best_trees", "fewest_of", "split_tree"]
def lo2 : List Str := ["fewest_ends", "ends_of", "split_answers", "is_split_end", "judge_split", "_law_pot", "_law_draw", "_law_some_names", "_law_names", "_law_arrangements", "_law_has", "_law_row_of", "_law_meet_row", "_law_meet", "_law_no_cell", "_law_same_marks", "_law_drawn_face", "_law_met", "_law_lets", "_law_told", "_law_exchange", "_law_fit", "_law_likes"]
def loose : List Str := lo0 ++ lo1 ++ lo2
abbrev RR : PySem.W.OpenRow := PySem.W.OpenLaw.row PySem.Challenge.rw_partnerlots_k96_whole_exchange_bounds_sp
abbrev ex1 : PySem.W.Frag → Bool := fun _ => true
abbrev hk : PySem.W.Hook := He.hookX 3 fa fn [] tf ex1
def ob (s : PySem.W.SharedT) : He.AlX := He.obsX 3 fa fn [] tf ex1 (HandSHeadRun.getT s)
theorem ob_eq (s : PySem.W.SharedT) : ob s = hk.obs s.abs := He.obsX_eq (HandSHeadRun.getT_eq s)
theorem run (w : World) : HandSHeadRun.RunEq RR (PySem.W.view RR.prog [95]) hk ob 20000 loose w := by
  intro os
  kernel_rfl
end K96
end

section
set_option Elab.async false
set_option linter.all false
set_option maxRecDepth 100000
set_option maxHeartbeats 0
namespace K96
open PySem PySem.Spec PyProof.Rows L2 PL LamX
section
variable {P : Program} {w : World} {K : PySem.W.Frag} {h base : Heap} {mg : Str → Option Value}
theorem hf_of {x : Str} {st : Stmt} (i j : Nat) (X : K.In h) (G : h.Ns mainGlobals mg) (c : He.SaysD fa fn K) (hd : fn[i]? = some ⟨(x, none), x, x, defArgs st, defBody st, defScope st, [], []⟩) (hf : fa[j]? = some (.glo x)) : HF K mg x st := by
  obtain ⟨fd, F⟩ := c.def_ i hd
  exact ⟨_, fd, F, He.glo_ok X G (c.fact j hf)⟩
theorem hd_of (X : K.In h) (G : h.Ns mainGlobals mg) (c : He.SaysD fa fn K) : HD P w K mg base where
  f_is_whole := hf_of 0 0 X G c rfl rfl
  f_is_number := hf_of 1 1 X G c rfl rfl
  f_is_name_text := hf_of 2 2 X G c rfl rfl
  f_is_name_row := hf_of 3 3 X G c rfl rfl
  f_is_rising := hf_of 4 4 X G c rfl rfl
  f_is_pair := hf_of 5 5 X G c rfl rfl
  f_is_triple := hf_of 6 6 X G c rfl rfl
  f_class_total := hf_of 7 7 X G c rfl rfl
  f_all_arrangements := hf_of 8 8 X G c rfl rfl
  f_numbered := hf_of 9 9 X G c rfl rfl
  f_finest_below := hf_of 10 10 X G c rfl rfl
  f_refines := hf_of 11 11 X G c rfl rfl
  f_tidied := hf_of 12 12 X G c rfl rfl
  f_has := hf_of 13 13 X G c rfl rfl
  f_common_sizes := hf_of 14 14 X G c rfl rfl
  f_least_of := hf_of 15 15 X G c rfl rfl
  f_from_to := hf_of 16 16 X G c rfl rfl
  f_is_sizes := hf_of 17 17 X G c rfl rfl
  f_full_row := hf_of 18 18 X G c rfl rfl
  f_face_with := hf_of 19 19 X G c rfl rfl
  f_whole_face := hf_of 20 20 X G c rfl rfl
  f_meet_faces := hf_of 21 21 X G c rfl rfl
  f_no_cells := hf_of 22 22 X G c rfl rfl
  f_is_face := hf_of 23 23 X G c rfl rfl
  f_is_region := hf_of 24 24 X G c rfl rfl
  f_are_names := hf_of 25 25 X G c rfl rfl
  f_is_question := hf_of 26 26 X G c rfl rfl
  f_decided_board := hf_of 27 27 X G c rfl rfl
  f_answers := hf_of 28 28 X G c rfl rfl
  f_is_shared_question := hf_of 29 29 X G c rfl rfl
  f_let_by := hf_of 30 30 X G c rfl rfl
  f_told_by := hf_of 31 31 X G c rfl rfl
  f_passed_on := hf_of 32 32 X G c rfl rfl
  f_are_faces := hf_of 33 33 X G c rfl rfl
  f_exchange := hf_of 34 34 X G c rfl rfl
  f_bounds_of := hf_of 35 35 X G c rfl rfl
  f_sizes_between := hf_of 36 36 X G c rfl rfl
  f_fits := hf_of 37 37 X G c rfl rfl
  f_face_keeping := hf_of 38 38 X G c rfl rfl
  f_met_faces := hf_of 39 39 X G c rfl rfl
  f_greatest_mark := hf_of 40 40 X G c rfl rfl
  f_start_state := hf_of 41 41 X G c rfl rfl
  f_has_some := hf_of 42 42 X G c rfl rfl
  f_is_ended := hf_of 43 43 X G c rfl rfl
  f_ender := hf_of 44 44 X G c rfl rfl
  f_name_partings := hf_of 45 45 X G c rfl rfl
  f_size_partings := hf_of 46 46 X G c rfl rfl
  f_partings := hf_of 47 47 X G c rfl rfl
  f_width := hf_of 48 48 X G c rfl rfl
  f_all_states := hf_of 49 49 X G c rfl rfl
  f_check_split_faces := hf_of 50 50 X G c rfl rfl
  f_best_parting := hf_of 51 51 X G c rfl rfl
  f_best_trees := hf_of 52 52 X G c rfl rfl
  f_fewest_of := hf_of 53 53 X G c rfl rfl
  f_split_tree := hf_of 54 54 X G c rfl rfl
  f_fewest_ends := hf_of 55 55 X G c rfl rfl
  f_ends_of := hf_of 56 56 X G c rfl rfl
  f_split_answers := hf_of 57 57 X G c rfl rfl
  f_is_split_end := hf_of 58 58 X G c rfl rfl
  f_judge_split := hf_of 59 59 X G c rfl rfl
  f__law_pot := hf_of 60 60 X G c rfl rfl
  f__law_draw := hf_of 61 61 X G c rfl rfl
  f__law_some_names := hf_of 62 62 X G c rfl rfl
  f__law_names := hf_of 63 63 X G c rfl rfl
  f__law_arrangements := hf_of 64 64 X G c rfl rfl
  f__law_has := hf_of 65 65 X G c rfl rfl
  f__law_row_of := hf_of 66 66 X G c rfl rfl
  f__law_meet_row := hf_of 67 67 X G c rfl rfl
  f__law_meet := hf_of 68 68 X G c rfl rfl
  f__law_no_cell := hf_of 69 69 X G c rfl rfl
  f__law_same_marks := hf_of 70 70 X G c rfl rfl
  f__law_drawn_face := hf_of 71 71 X G c rfl rfl
  f__law_met := hf_of 72 72 X G c rfl rfl
  f__law_lets := hf_of 73 73 X G c rfl rfl
  f__law_told := hf_of 74 74 X G c rfl rfl
  f__law_exchange := hf_of 75 75 X G c rfl rfl
  f__law_fit := hf_of 76 76 X G c rfl rfl
  f__law_likes := hf_of 77 77 X G c rfl rfl
  f_law := hf_of 78 78 X G c rfl rfl
  b_abs := He.free_ok X G (c.fact 79 (f := .free "abs") rfl)
  b_bool := He.free_ok X G (c.fact 80 (f := .free "bool") rfl)
  b_int := He.free_ok X G (c.fact 81 (f := .free "int") rfl)
  b_isinstance := He.free_ok X G (c.fact 82 (f := .free "isinstance") rfl)
  b_len := He.free_ok X G (c.fact 83 (f := .free "len") rfl)
  b_list := He.free_ok X G (c.fact 84 (f := .free "list") rfl)
  b_max := He.free_ok X G (c.fact 85 (f := .free "max") rfl)
  b_min := He.free_ok X G (c.fact 86 (f := .free "min") rfl)
  b_range := He.free_ok X G (c.fact 87 (f := .free "range") rfl)
  b_reversed := He.free_ok X G (c.fact 88 (f := .free "reversed") rfl)
  b_set := He.free_ok X G (c.fact 89 (f := .free "set") rfl)
  b_sorted := He.free_ok X G (c.fact 90 (f := .free "sorted") rfl)
  b_str := He.free_ok X G (c.fact 91 (f := .free "str") rfl)
  b_tuple := He.free_ok X G (c.fact 92 (f := .free "tuple") rfl)
  b_zip := He.free_ok X G (c.fact 93 (f := .free "zip") rfl)
  g_SMALL := He.str_ok X G (c.fact 94 (f := .str "SMALL" "abcdefghijklmnopqrstuvwxyz") rfl)
  g_FIGURES := He.str_ok X G (c.fact 95 (f := .str "FIGURES" "0123456789") rfl)
abbrev bp : He.Defn := ("best_trees", none)
theorem bt_of (X : K.In h) (G : h.Ns mainGlobals mg) (c : He.SaysD fa fn K) : ∃ f fd, FunC K "best_trees" "best_trees" (defArgs s_best_trees) (defBody s_best_trees) (defScope s_best_trees) f fd (He.cT K bp).1 ∧ mg "best_trees" = some (.ref f) ∧ PySem.W.keepIn K (.ref f) = true ∧ L2.Binds K fd ["faces"] [] := by
  obtain ⟨fd, F⟩ := c.def_ 52 (d := d_best_trees) rfl
  have m := He.glo_ok X G (c.fact 52 (f := .glo "best_trees") rfl)
  have b := FunD.bindsN (ps := ["faces"]) F fun _ _ _ _ _ _ us hl => match us, hl with | [_], _ => rfl
  have kp := F.kp
  obtain ⟨oc, od, dV, kV, doc, pm, an, cdv, ct, osl, e, lk, hcd, _, _⟩ := F.ex
  obtain ⟨c0, rfl⟩ := He.codeIn_ref hcd
  have ec : (He.cT K bp).1 = c0 := He.codeOf_eq lk (by rw [e])
  rw [ec]
  exact ⟨_, fd, ⟨oc, od, dV, kV, doc, pm, an, ct, osl, e, lk, hcd⟩, m, kp, b⟩
theorem law_at {l : PySem.W.OpenLaw} (X : K.In h) (G : h.Ns mainGlobals mg) (c : He.SaysX fa fn [] tf ex1 w h K) {f : Addr} (hmg : mg ("law" : Str) = some (.ref f)) : LawAtS l w K CX0 9 63 "script" mg f h := by
  have cd := c.t.d
  obtain ⟨fd, F⟩ := cd.def_ 78 (d := d_law) rfl
  have e := hmg.symm.trans (He.glo_ok X G (cd.fact 78 (f := .glo "law") rfl))
  cases e
  have b := FunD.bindsA (ps := ["script"]) F fun _ _ _ _ _ _ us hl => match us, hl with | [_], _ => rfl
  have mem : bp ∈ tf := List.mem_singleton.mpr rfl
  refine ⟨fd, [He.cT K bp], spLaw K (He.cT K bp).2, fun p hp => ?_, fun p hp => ?_, fun p hp => ?_, fun s u => b s [u] rfl, fun H a ns hl _ hT hS => ?_, fun base hK hb hT => ?_⟩
  · rw [List.mem_singleton.mp hp]; exact c.empty bp mem
  · rw [List.mem_singleton.mp hp]; exact c.out bp mem
  · rw [List.mem_singleton.mp hp]; exact PySem.W.codeHd_of_K X (c.hd bp mem)
  · refine ⟨a, ns, rfl, hS, by omega, fun p hp => ?_, fun _ => rfl⟩
    rw [List.mem_singleton.mp hp]
    exact TabS.nil (hT _ (List.mem_singleton.mpr rfl))
  · exact raw_law ⟨hd_of X G cd, hT _ (List.mem_singleton.mpr rfl), bt_of X G cd⟩ F
end
end K96
open PySem PySem.W PySem.Calls PyProof.Rows
theorem PySem.Challenge.cw_partnerlots_k96_whole_exchange_bounds_sp_holds : PySem.Challenge.rw_partnerlots_k96_whole_exchange_bounds_sp.Holds := by
  w_on; o_law
  refine HandSHeadRun.head_any (r := OpenLaw.row PySem.Challenge.rw_partnerlots_k96_whole_exchange_bounds_sp) (q := view (OpenLaw.row PySem.Challenge.rw_partnerlots_k96_whole_exchange_bounds_sp).prog [95]) (H := K96.hk) (ob := K96.ob) (M := 20000) (loose := K96.loose) (d := HandSHeadRun.topDef (OpenLaw.row PySem.Challenge.rw_partnerlots_k96_whole_exchange_bounds_sp).prog 95) (kwd := []) K96.ob_eq
    (by kernel_rfl) (fun s => by kernel_rfl) K96.run (by kernel_rfl) (by kernel_rfl) (by kernel_rfl) (by rfl) (by first | assumption | decide +kernel) (by decide +kernel) ⟨rfl, rfl, rfl, rfl, rfl, by decide +kernel⟩ ?hw ?hc
  case hw => w_witness2
  case hc =>
    refine LamX.walk_ofTsE (l := PySem.Challenge.rw_partnerlots_k96_whole_exchange_bounds_sp) (n := 63) (k := 9) (x := "script") (CX := fun _ => L2.CX0) rfl (by decide) (by kernel_rfl) ⟨rfl, by decide, by decide⟩ ?F (fun _ _ _ _ _ z => z)
    intro w mg fa h Y G hmg0
    obtain ⟨K, KX, c⟩ := Y
    have hmg : mg ("law" : PySem.Str) = some (.ref fa) := by
      have e : (HandSHeadRun.topDef (OpenLaw.row PySem.Challenge.rw_partnerlots_k96_whole_exchange_bounds_sp).prog 95).name = ("law" : PySem.Str) := by kernel_rfl
      rw [← e]
      exact hmg0
    exact ⟨K, KX, K96.law_at KX G c hmg⟩
end
