import PyProof.Rows.All
import HandS.ForMost
import HandS.Exc
import HandS.WordsExc
import HandS.Zip
import HandS.Wide
import HandS.Flow
import HandS.IsInst
import HandS.DictComp
import HandS.Defaults
import KE.KDictKeyed
import KE.SortData
import KE.DataEq
import KE.DataCmp
import PyProof.ReprReads
import HandS.TupAny
import HandS.TupMul
import HandS.Style
import HandS.TupLen
import KE.DataIsa
import KE.DataAny
import KE.LcSums
import KE.GoesEnum
import HandS.TupSets
import HandS.ExcInit
import HandS.ExcField
import HandS.ExcIs
import KE.KExcIs
import HandS.Ends
import HandS.EndBits
import HandS.Head0
import HandS.Head1
import HandS.Head2
import HandS.HeadEnd
import HandS.HeadHook1
import HandS.HeadHook2
import PySem.Challenge.RW_leadalike_k01_facts_required
/-! text LdA -/
set_option Elab.async false
set_option linter.all false
set_option maxRecDepth 100000
set_option maxHeartbeats 4000000
namespace Ld
open PySem PySem.Spec L2
open PyProof.Rows hiding St

/-! ### data at values of the abstract heap -/
/-- the entries of a dict object with keys of any depth: key, where its value stands, what it holds -/
abbrev NEnt := NestedKey × Addr × V
def entOk (w : World) (n : NEnt) (e : DictEntry) : Prop := e.hash = n.1.hash w ∧ e.key = .ref n.2.1 ∧ RelV n.2.2 e.val
def kd : Key → PyData
  | .inl i => .int i
  | .inr x => .str x
/-- at a stands a dict whose entries are these -/
def DN (w : World) (a : Addr) (ns : List NEnt) (h : Heap) : Prop :=
  (a == sysModules) = false ∧ ns.length ≤ sizeLine ∧ (ns.map (·.1)).Nodup ∧ ∃ o es ep, h.get? a = some o ∧ o.ExactDict ∧ o.data = .dict es ep ∧ Paired (entOk w) ns es.toList
abbrev dn (w : World) (a : Addr) (ns : List NEnt) : HO := .ext (DN w a ns)

/-- a list that is never written again: locked, or the law's own argument among the module's objects -/
def FrzL (K : PySem.W.Frag) (H : Hp) (a : Addr) (vs : List V) : Prop :=
  (∃ o, H a = some (.frz o (.lst vs))) ∨ ∃ (its : List Value) (n : Nat), K.lookup a = some { cls := .type "list", data := .seq its.toArray n } ∧ vs.length ≤ sizeLine ∧ Vals vs its
theorem FrzL.sqL {K : PySem.W.Frag} {H : Hp} {a : Addr} {vs : List V} (h : FrzL K H a vs) : SqL K H a vs := by
  rcases h with ⟨o, h⟩ | ⟨its, n, h1, h2, h3⟩
  · exact .inl (.inr ⟨o, h⟩)
  · exact .inr ⟨_, its.toArray, n, h1, rfl, rfl, rfl, by rw [List.size_toArray, ← h3.length]; exact h2, by simpa using h3⟩
mutual
/-- the value is this datum: tuples (tracked, or of the written part), lists that are locked for good, dicts likewise -/
inductive Rp (K : PySem.W.Frag) (w : World) (H : Hp) : PyData → V → Prop
  | none : Rp K w H .none .non
  | bool (b : Bool) : Rp K w H (.bool b) (.bl b)
  | int (i : Int) : Rp K w H (.int i) (.int i)
  | str (x : Str) : Rp K w H (.str x) (.str x)
  | tup {a : Addr} {vs : List V} {ds : List PyData} : SqT K H a vs → RpA K w H ds vs → Rp K w H (.tuple ds) (.ref a)
  | lst {a : Addr} {vs : List V} {ds : List PyData} : FrzL K H a vs → RpA K w H ds vs → Rp K w H (.list ds) (.ref a)
  | dct {a : Addr} {o : Obj} {ns : List NEnt} {kvs : List (PyData × PyData)} : H a = some (.frz o (dn w a ns)) → RpN K w H kvs ns → Rp K w H (.dict kvs) (.ref a)
  | dcl {a : Addr} {o : Obj} {ls : List (Key × V)} {kvs : List (PyData × PyData)} : H a = some (.frz o (.dK ls)) → RpL K w H kvs ls → Rp K w H (.dict kvs) (.ref a)
inductive RpA (K : PySem.W.Frag) (w : World) (H : Hp) : List PyData → List V → Prop
  | nil : RpA K w H [] []
  | cons {d : PyData} {ds : List PyData} {v : V} {vs : List V} : Rp K w H d v → RpA K w H ds vs → RpA K w H (d :: ds) (v :: vs)
inductive RpN (K : PySem.W.Frag) (w : World) (H : Hp) : List (PyData × PyData) → List NEnt → Prop
  | nil : RpN K w H [] []
  | cons {d e : PyData} {r : List (PyData × PyData)} {k : NestedKey} {b : Addr} {vv : V} {ns : List NEnt} : d = k.data ∧ k.depth ≤ 8 → Rp K w H d (.ref b) → Rp K w H e vv → RpN K w H r ns → RpN K w H ((d, e) :: r) ((k, b, vv) :: ns)
inductive RpL (K : PySem.W.Frag) (w : World) (H : Hp) : List (PyData × PyData) → List (Key × V) → Prop
  | nil : RpL K w H [] []
  | cons {d e : PyData} {r : List (PyData × PyData)} {k : Key} {vv : V} {ls : List (Key × V)} : d = kd k → Rp K w H e vv → RpL K w H r ls → RpL K w H ((d, e) :: r) ((k, vv) :: ls)
end

/-- tuples and locked things stay -/
structure Kp (H H' : Hp) : Prop where
  tup : ∀ a xs, H a = some (.tup xs) → H' a = some (.tup xs)
  frz : ∀ a o u, H a = some (.frz o u) → H' a = some (.frz o u)
theorem Kp.refl (H : Hp) : Kp H H := ⟨fun _ _ h => h, fun _ _ _ h => h⟩
theorem Kp.trans {H H1 H2 : Hp} (a : Kp H H1) (b : Kp H1 H2) : Kp H H2 := ⟨fun c x h => b.tup c x (a.tup c x h), fun c o u h => b.frz c o u (a.frz c o u h)⟩
theorem Kp.sqT {K : PySem.W.Frag} {H H' : Hp} (k : Kp H H') {a : Addr} {xs : List V} (h : SqT K H a xs) : SqT K H' a xs := by
  rcases h with (h | ⟨o, h⟩) | h
  · exact .inl (.inl (k.tup _ _ h))
  · exact .inl (.inr ⟨o, k.frz _ _ _ h⟩)
  · exact .inr h
theorem Kp.frzL {K : PySem.W.Frag} {H H' : Hp} (k : Kp H H') {a : Addr} {xs : List V} (h : FrzL K H a xs) : FrzL K H' a xs := by
  rcases h with ⟨o, h⟩ | h
  · exact .inl ⟨o, k.frz _ _ _ h⟩
  · exact .inr h
mutual
theorem Rp.kp {K : PySem.W.Frag} {w : World} {H H' : Hp} (k : Kp H H') : ∀ {d : PyData} {v : V}, Rp K w H d v → Rp K w H' d v
  | _, _, .none => .none
  | _, _, .bool b => .bool b
  | _, _, .int i => .int i
  | _, _, .str x => .str x
  | _, _, .tup h r => .tup (k.sqT h) (RpA.kp k r)
  | _, _, .lst h r => .lst (k.frzL h) (RpA.kp k r)
  | _, _, .dct h r => .dct (k.frz _ _ _ h) (RpN.kp k r)
  | _, _, .dcl h r => .dcl (k.frz _ _ _ h) (RpL.kp k r)
theorem RpA.kp {K : PySem.W.Frag} {w : World} {H H' : Hp} (k : Kp H H') : ∀ {ds : List PyData} {vs : List V}, RpA K w H ds vs → RpA K w H' ds vs
  | _, _, .nil => .nil
  | _, _, .cons a r => .cons (Rp.kp k a) (RpA.kp k r)
theorem RpN.kp {K : PySem.W.Frag} {w : World} {H H' : Hp} (k : Kp H H') : ∀ {ds : List (PyData × PyData)} {ns : List NEnt}, RpN K w H ds ns → RpN K w H' ds ns
  | _, _, .nil => .nil
  | _, _, .cons e a b r => .cons e (Rp.kp k a) (Rp.kp k b) (RpN.kp k r)
theorem RpL.kp {K : PySem.W.Frag} {w : World} {H H' : Hp} (k : Kp H H') : ∀ {ds : List (PyData × PyData)} {ns : List (Key × V)}, RpL K w H ds ns → RpL K w H' ds ns
  | _, _, .nil => .nil
  | _, _, .cons e b r => .cons e (Rp.kp k b) (RpL.kp k r)
end
theorem RpA.length {K : PySem.W.Frag} {w : World} {H : Hp} : ∀ {ds : List PyData} {vs : List V}, RpA K w H ds vs → ds.length = vs.length
  | _, _, .nil => rfl
  | _, _, .cons _ r => by simp [RpA.length r]
theorem RpN.length {K : PySem.W.Frag} {w : World} {H : Hp} : ∀ {ds : List (PyData × PyData)} {vs : List NEnt}, RpN K w H ds vs → ds.length = vs.length
  | _, _, .nil => rfl
  | _, _, .cons _ _ _ r => by simp [RpN.length r]
theorem RpL.length {K : PySem.W.Frag} {w : World} {H : Hp} : ∀ {ds : List (PyData × PyData)} {vs : List (Key × V)}, RpL K w H ds vs → ds.length = vs.length
  | _, _, .nil => rfl
  | _, _, .cons _ _ r => by simp [RpL.length r]
theorem RpA.append {K : PySem.W.Frag} {w : World} {H : Hp} : ∀ {ds es : List PyData} {vs us : List V}, RpA K w H ds vs → RpA K w H es us → RpA K w H (ds ++ es) (vs ++ us)
  | _, _, _, _, .nil, s => s
  | _, _, _, _, .cons a r, s => .cons a (RpA.append r s)
theorem RpA.take {K : PySem.W.Frag} {w : World} {H : Hp} : ∀ {ds : List PyData} {vs : List V} (n : Nat), RpA K w H ds vs → RpA K w H (ds.take n) (vs.take n)
  | _, _, 0, _ => .nil
  | _, _, _ + 1, .nil => .nil
  | _, _, n + 1, .cons a r => .cons a (RpA.take n r)
theorem RpA.drop {K : PySem.W.Frag} {w : World} {H : Hp} : ∀ {ds : List PyData} {vs : List V} (n : Nat), RpA K w H ds vs → RpA K w H (ds.drop n) (vs.drop n)
  | _, _, 0, r => r
  | _, _, _ + 1, .nil => .nil
  | _, _, n + 1, .cons _ r => RpA.drop n r
theorem RpA.get {K : PySem.W.Frag} {w : World} {H : Hp} : ∀ {ds : List PyData} {vs : List V} {i : Nat} {d : PyData}, RpA K w H ds vs → ds[i]? = some d → ∃ v, vs[i]? = some v ∧ Rp K w H d v
  | _, _, _, _, .nil, e => by simp at e
  | _, _, 0, d, .cons a _, e => by
    simp at e; subst e; exact ⟨_, rfl, a⟩
  | _, _, i + 1, d, .cons _ r, e => by
    obtain ⟨v, h1, h2⟩ := RpA.get (i := i) r (by simpa using e)
    exact ⟨v, by simpa using h1, h2⟩
theorem RpA.get' {K : PySem.W.Frag} {w : World} {H : Hp} : ∀ {ds : List PyData} {vs : List V} {i : Nat} {v : V}, RpA K w H ds vs → vs[i]? = some v → ∃ d, ds[i]? = some d ∧ Rp K w H d v
  | _, _, _, _, .nil, e => by simp at e
  | _, _, 0, d, .cons a _, e => by
    simp at e; subst e; exact ⟨_, rfl, a⟩
  | _, _, i + 1, d, .cons _ r, e => by
    obtain ⟨v, h1, h2⟩ := RpA.get' (i := i) r (by simpa using e)
    exact ⟨v, by simpa using h1, h2⟩
theorem RpA.reverse {K : PySem.W.Frag} {w : World} {H : Hp} : ∀ {ds : List PyData} {vs : List V}, RpA K w H ds vs → RpA K w H ds.reverse vs.reverse
  | _, _, .nil => .nil
  | _, _, .cons a r => by
    rw [List.reverse_cons, List.reverse_cons]
    exact (RpA.reverse r).append (.cons a .nil)
theorem RpA.one {K : PySem.W.Frag} {w : World} {H : Hp} {d : PyData} {v : V} (h : Rp K w H d v) : RpA K w H [d] [v] := .cons h .nil

section
variable {X : Cx} {pins : List (Addr × Obj)} {σ : St} {H : Hp} {s : Shared}
theorem paired_map {α β γ : Type} {F : α → β → Prop} {f : β → γ} : ∀ {l : List α} {r : List β}, Paired F l r → Paired (fun a c => ∃ b, c = f b ∧ F a b) l (r.map f)
  | _, _, .nil => .nil
  | _, _, .cons a t => .cons ⟨_, rfl, a⟩ (paired_map t)
/-- at sys.modules stands a dict -/
def NoSys (s : Shared) : Prop := ∃ o, s.heap.get? sysModules = some o ∧ o.cls = .type "dict"
/-- what is read, and that sys.modules is not in it -/
def Rds (s : Shared) (v : Value) (d : PyData) : Prop := ∃ as, Reads s.heap v d as ∧ (NoSys s → sysModules ∉ as)
def RdsA (s : Shared) (v : List Value) (d : List PyData) : Prop := ∃ as, ReadsAll s.heap v d as ∧ (NoSys s → sysModules ∉ as)
theorem RdsA.nil {s : Shared} : RdsA s [] [] := ⟨_, .nil, fun _ h => by simp at h⟩
theorem RdsA.cons {s : Shared} {v : Value} {d : PyData} {vs : List Value} {ds : List PyData} (a : Rds s v d) (b : RdsA s vs ds) : RdsA s (v :: vs) (d :: ds) := by
  obtain ⟨as, h1, n1⟩ := a
  obtain ⟨bs, h2, n2⟩ := b
  exact ⟨_, .cons h1 h2, fun n h => (List.mem_append.mp h).elim (n1 n) (n2 n)⟩
theorem ns_ne {s : Shared} {a : Addr} {o : Obj} {T : String} (h : s.heap.get? a = some o) (hc : o.cls = .type T) (ht : T ≠ "dict") (n : NoSys s) : sysModules ≠ a := by
  rintro rfl
  obtain ⟨o', h', c⟩ := n
  rw [h] at h'
  cases h'
  rw [hc] at c
  exact ht (by injection c)
mutual
/-- what it reads as on the model's heap -/
theorem Rp.reads2 (I : Inv X pins σ H s) : ∀ {d : PyData} {v : V} {u : Value}, Rp X.K X.w H d v → RelV v u → Rds s u d
  | _, _, _, .none, r => by cases r; exact ⟨_, .none, fun _ h => by simp at h⟩
  | _, _, _, .bool b, r => by cases r; exact ⟨_, .bool b, fun _ h => by simp at h⟩
  | _, _, _, .int i, r => by obtain ⟨t, rfl⟩ := r; exact ⟨_, .int i t, fun _ h => by simp at h⟩
  | _, _, _, .str x, r => by obtain ⟨t, rfl⟩ := r; exact ⟨_, .str x t, fun _ h => by simp at h⟩
  | _, _, _, .tup h q, r => by
    cases r
    obtain ⟨its, rv, ⟨o, ho, hc, n, hd⟩, _⟩ := I.tuple h
    obtain ⟨as, hr, n1⟩ := RpA.reads2 I q rv
    exact ⟨_, .tuple ho hc hd hr, n1⟩
  | _, _, _, .lst h q, r => by
    cases r
    obtain ⟨its, rv, ⟨o, n, ho, hc, _, hd⟩, _⟩ := I.list h.sqL
    obtain ⟨as, hr, n1⟩ := RpA.reads2 I q rv
    exact ⟨_, .list ho hc hd hr, fun n h => (List.mem_cons.mp h).elim (ns_ne ho hc (by decide) n) (n1 n)⟩
  | _, _, _, .dct h q, r => by
    cases r
    obtain ⟨_, ⟨⟨z, _, _, o, es, ep, ho, hc, hd, hp⟩, _⟩⟩ := I.hok _ _ h
    obtain ⟨as, h1, n1⟩ := RpN.readsK I q hp
    obtain ⟨bs, h2, n2⟩ := RpN.readsV I q hp
    exact ⟨_, .dict ho hc.1 hd h1 h2, fun n h => (List.mem_append.mp h).elim (fun h => (List.mem_cons.mp h).elim (fun e => by simp [e] at z) (n1 n)) (n2 n)⟩
  | _, _, _, .dcl h q, r => by
    cases r
    obtain ⟨_, _, z, vs, kv, o, es, ep, ho, hc, hd, hk, hp, _⟩ := I.hok _ _ h
    obtain ⟨as, h1, n1⟩ := RpL.readsK I q kv hp
    obtain ⟨bs, h2, n2⟩ := RpL.readsV I q kv hp
    exact ⟨_, .dict ho hc.1 hd h1 h2, fun n h => (List.mem_append.mp h).elim (fun h => (List.mem_cons.mp h).elim (fun e => by simp [e] at z) (n1 n)) (n2 n)⟩
theorem RpA.reads2 (I : Inv X pins σ H s) : ∀ {ds : List PyData} {vs : List V} {us : List Value}, RpA X.K X.w H ds vs → Vals vs us → RdsA s us ds
  | _, _, _, .nil, r => by cases r; exact .nil
  | _, _, _, .cons a q, r => by
    cases r with
    | cons r1 r2 => exact .cons (Rp.reads2 I a r1) (RpA.reads2 I q r2)
theorem RpN.readsK (I : Inv X pins σ H s) : ∀ {kvs : List (PyData × PyData)} {ns : List NEnt} {es : List DictEntry}, RpN X.K X.w H kvs ns → Paired (entOk X.w) ns es → RdsA s (es.map (·.key)) (kvs.map (·.1))
  | _, _, _, .nil, r => by cases r; exact .nil
  | _, _, _, .cons _ a _ q, r => by
    cases r with
    | cons r1 r2 => exact .cons (Rp.reads2 I a (show RelV (.ref _) _ from r1.2.1)) (RpN.readsK I q r2)
theorem RpN.readsV (I : Inv X pins σ H s) : ∀ {kvs : List (PyData × PyData)} {ns : List NEnt} {es : List DictEntry}, RpN X.K X.w H kvs ns → Paired (entOk X.w) ns es → RdsA s (es.map (·.val)) (kvs.map (·.2))
  | _, _, _, .nil, r => by cases r; exact .nil
  | _, _, _, .cons _ _ b q, r => by
    cases r with
    | cons r1 r2 => exact .cons (Rp.reads2 I b r1.2.2) (RpN.readsV I q r2)
theorem RpL.readsK (I : Inv X pins σ H s) : ∀ {kvs : List (PyData × PyData)} {ls : List (Key × V)} {vs : List (Key × Value)} {es : List DictEntry}, RpL X.K X.w H kvs ls → KV ls vs → Pairs (mixKind X.prog X.w) es vs → RdsA s (es.map (·.key)) (kvs.map (·.1))
  | _, _, _, _, .nil, kv, r => by cases kv; cases r; exact .nil
  | _, _, _, _, .cons e _ q, kv, r => by
    cases kv with
    | cons k1 k2 =>
      cases r with
      | cons r1 r2 r3 =>
        have h2 := RpL.readsK I q k2 r3
        have r1' : keyIs _ _ = true := r1
        rw [← k1.1] at r1'
        subst e
        rename_i k _ _ _ _ _ _
        rcases keyIs_shape r1' with ⟨i, t, e1, e2⟩ | ⟨x, t, e1, e2⟩
        · simp only at e1
          subst e1
          refine .cons ⟨[], ?_, fun _ h => by simp at h⟩ h2
          show Reads _ (DictEntry.key _) _ _; rw [e2]; exact .int i t
        · simp only at e1
          subst e1
          refine .cons ⟨[], ?_, fun _ h => by simp at h⟩ h2
          show Reads _ (DictEntry.key _) _ _; rw [e2]; exact .str x t
theorem RpL.readsV (I : Inv X pins σ H s) : ∀ {kvs : List (PyData × PyData)} {ls : List (Key × V)} {vs : List (Key × Value)} {es : List DictEntry}, RpL X.K X.w H kvs ls → KV ls vs → Pairs (mixKind X.prog X.w) es vs → RdsA s (es.map (·.val)) (kvs.map (·.2))
  | _, _, _, _, .nil, kv, r => by cases kv; cases r; exact .nil
  | _, _, _, _, .cons _ b q, kv, r => by
    cases kv with
    | cons k1 k2 =>
      cases r with
      | cons r1 r2 r3 =>
        refine .cons ?_ (RpL.readsV I q k2 r3)
        show Rds _ (DictEntry.val _) _
        rw [r2]
        exact Rp.reads2 I b k1.2
end
theorem Rp.reads (I : Inv X pins σ H s) {d : PyData} {v : V} {u : Value} (h : Rp X.K X.w H d v) (r : RelV v u) : ∃ as, Reads s.heap u d as := let ⟨as, a, _⟩ := Rp.reads2 I h r; ⟨as, a⟩
theorem RpA.reads (I : Inv X pins σ H s) {ds : List PyData} {vs : List V} {us : List Value} (h : RpA X.K X.w H ds vs) (r : Vals vs us) : ∃ as, ReadsAll s.heap us ds as := let ⟨as, a, _⟩ := RpA.reads2 I h r; ⟨as, a⟩
end
end Ld
/-! text LdB -/
set_option Elab.async false
set_option linter.all false
set_option maxRecDepth 100000
set_option maxHeartbeats 4000000
namespace Ld
open PySem PySem.Spec L2
open PyProof.Rows hiding St

/-! ### results -/
/-- the pen of drawn numbers: a list of three places -/
structure Pen where
  cells : List Int
  seat : Int
  left : Int
abbrev G := Option Pen
/-- an argument or a value -/
inductive DV where
  | d (x : PyData)
  | pen
inductive Res (α : Type) where
  | ok (a : α) (g : G)
  | exc (c : Nat) (fs : List (Str × PyData)) (g : G)
  | no
abbrev M (α : Type) := G → Res α
def rt {α : Type} (a : α) : M α := fun g => .ok a g
def no {α : Type} : M α := fun _ => .no
def bnd {α β : Type} (m : M α) (f : α → M β) : M β := fun g => match m g with
  | .ok a g' => f a g'
  | .exc c fs g' => .exc c fs g'
  | .no => .no
/-- no exception may come here -/
def noX {α : Type} (m : M α) : M α := fun g => match m g with
  | .ok a g' => .ok a g'
  | _ => .no
def ofO {α : Type} : Option α → M α
  | some a => rt a
  | none => no
def grd {α : Type} (b : Bool) (m : M α) : M α := match b with
  | true => m
  | false => no
def dat : DV → M PyData
  | .d x => rt x
  | .pen => no
abbrev Fun := List DV → M DV

/-! ### what the operations give -/
def maxLen : Nat := 10000000
def truthD : PyData → Bool
  | .none => false
  | .bool b => b
  | .int n => n != 0
  | .str x => x.length != 0
  | .list xs => !xs.isEmpty
  | .tuple xs => !xs.isEmpty
  | .dict kvs => !kvs.isEmpty
def isTupD : PyData → Bool
  | .tuple _ => true
  | _ => false
/-- truth, where the rules tell it -/
def truthO : PyData → Option Bool
  | .str x => (match decide (x.length ≤ maxLen) with
    | true => some (x.length != 0)
    | false => none)
  | .dict kvs => (match kvs.all fun p => !isTupD p.1 with
    | true => some (!kvs.isEmpty)
    | false => none)
  | x => some (truthD x)
mutual
def beqD : PyData → PyData → Bool
  | .none, .none => true
  | .bool a, .bool b => a == b
  | .int a, .int b => decide (a = b)
  | .str a, .str b => decide (a = b)
  | .list a, .list b => beqDs a b
  | .tuple a, .tuple b => beqDs a b
  | .dict a, .dict b => beqKv a b
  | _, _ => false
def beqDs : List PyData → List PyData → Bool
  | [], [] => true
  | a :: r, b :: t => beqD a b && beqDs r t
  | _, _ => false
def beqKv : List (PyData × PyData) → List (PyData × PyData) → Bool
  | [], [] => true
  | (a, b) :: r, (c, e) :: t => beqD a c && (beqD b e && beqKv r t)
  | _, _ => false
end
mutual
theorem beqD_self : ∀ a : PyData, beqD a a = true
  | .none => rfl
  | .bool a => by simp [beqD]
  | .int a => by simp [beqD]
  | .str a => by simp [beqD]
  | .list a => by simp only [beqD]; exact beqDs_self a
  | .tuple a => by simp only [beqD]; exact beqDs_self a
  | .dict a => by simp only [beqD]; exact beqKv_self a
theorem beqDs_self : ∀ a : List PyData, beqDs a a = true
  | [] => rfl
  | a :: r => by simp only [beqDs, beqD_self a, beqDs_self r, Bool.and_self]
theorem beqKv_self : ∀ a : List (PyData × PyData), beqKv a a = true
  | [] => rfl
  | (a, b) :: r => by simp only [beqKv, beqD_self a, beqD_self b, beqKv_self r, Bool.and_self]
end
mutual
theorem eq_of_beqD : ∀ a b : PyData, beqD a b = true → a = b
  | .none, b, h => by cases b <;> simp_all [beqD]
  | .bool a, b, h => by cases b <;> simp_all [beqD]
  | .int a, b, h => by cases b <;> simp_all [beqD]
  | .str a, b, h => by cases b <;> simp_all [beqD]
  | .list a, b, h => by
    cases b <;> simp only [beqD, Bool.false_eq_true] at h
    rw [eq_of_beqDs _ _ h]
  | .tuple a, b, h => by
    cases b <;> simp only [beqD, Bool.false_eq_true] at h
    rw [eq_of_beqDs _ _ h]
  | .dict a, b, h => by
    cases b <;> simp only [beqD, Bool.false_eq_true] at h
    rw [eq_of_beqKv _ _ h]
theorem eq_of_beqDs : ∀ a b : List PyData, beqDs a b = true → a = b
  | [], b, h => by cases b <;> simp_all [beqDs]
  | a :: r, b, h => by
    cases b with
    | nil => simp [beqDs] at h
    | cons c t =>
      simp only [beqDs, Bool.and_eq_true] at h
      rw [eq_of_beqD _ _ h.1, eq_of_beqDs _ _ h.2]
theorem eq_of_beqKv : ∀ a b : List (PyData × PyData), beqKv a b = true → a = b
  | [], b, h => by cases b <;> simp_all [beqKv]
  | (a, a') :: r, b, h => by
    cases b with
    | nil => simp [beqKv] at h
    | cons c t =>
      obtain ⟨c, c'⟩ := c
      simp only [beqKv, Bool.and_eq_true] at h
      rw [eq_of_beqD _ _ h.1, eq_of_beqD _ _ h.2.1, eq_of_beqKv _ _ h.2.2]
end
instance decData : DecidableEq PyData := fun a b => if h : beqD a b = true then .isTrue (eq_of_beqD a b h) else .isFalse fun e => h (e ▸ beqD_self a)
theorem beqD_iff {a b : PyData} : beqD a b = true ↔ a = b := ⟨eq_of_beqD a b, fun e => e ▸ beqD_self a⟩

mutual
/-- the key that a datum is -/
def toKey : PyData → Option NestedKey
  | .none => some .none
  | .int i => some (.num i)
  | .str x => some (.text x)
  | .tuple ds => match toKeys ds with
    | some ks => some (.tup ks)
    | none => none
  | _ => none
def toKeys : List PyData → Option (List NestedKey)
  | [] => some []
  | d :: r => match toKey d with
    | some k => (match toKeys r with
      | some ks => some (k :: ks)
      | none => none)
    | none => none
end
mutual
theorem toKey_data : ∀ (d : PyData) {k : NestedKey}, toKey d = some k → d = k.data
  | .none, k, h => by simp only [toKey, Option.some.injEq] at h; subst h; rfl
  | .int i, k, h => by simp only [toKey, Option.some.injEq] at h; subst h; rfl
  | .str i, k, h => by simp only [toKey, Option.some.injEq] at h; subst h; rfl
  | .bool _, k, h => by simp [toKey] at h
  | .list _, k, h => by simp [toKey] at h
  | .dict _, k, h => by simp [toKey] at h
  | .tuple ds, k, h => by
    simp only [toKey] at h
    cases q : toKeys ds with
    | none => rw [q] at h; cases h
    | some ks =>
      rw [q] at h
      simp only [Option.some.injEq] at h
      subst h
      simp only [NestedKey.data]
      rw [toKeys_data ds q]
theorem toKeys_data : ∀ (d : List PyData) {k : List NestedKey}, toKeys d = some k → d = NestedKey.datas k
  | [], k, h => by simp only [toKeys, Option.some.injEq] at h; subst h; rfl
  | d :: r, k, h => by
    simp only [toKeys] at h
    cases q : toKey d with
    | none => rw [q] at h; cases h
    | some x =>
      rw [q] at h
      simp only at h
      cases q2 : toKeys r with
      | none => rw [q2] at h; cases h
      | some ks =>
        rw [q2] at h
        simp only [Option.some.injEq] at h
        subst h
        simp only [NestedKey.datas]
        rw [← toKey_data d q, ← toKeys_data r q2]
end
mutual
theorem data_inj : ∀ (a b : NestedKey), a.data = b.data → a = b
  | .none, b, h => by cases b <;> simp_all [NestedKey.data]
  | .num _, b, h => by cases b <;> simp_all [NestedKey.data]
  | .text _, b, h => by cases b <;> simp_all [NestedKey.data]
  | .tup ks, b, h => by
    cases b <;> simp only [NestedKey.data, PyData.tuple.injEq, reduceCtorEq] at h
    rw [datas_inj _ _ h]
theorem datas_inj : ∀ (a b : List NestedKey), NestedKey.datas a = NestedKey.datas b → a = b
  | [], b, h => by cases b <;> simp_all [NestedKey.datas]
  | x :: r, b, h => by
    cases b with
    | nil => simp [NestedKey.datas] at h
    | cons y t =>
      simp only [NestedKey.datas, List.cons.injEq] at h
      rw [data_inj _ _ h.1, datas_inj _ _ h.2]
end
def keyable (d : PyData) : Bool := match toKey d with
  | some k => decide (k.depth ≤ 8)
  | none => false
def dget (kvs : List (PyData × PyData)) (k : PyData) : Option PyData := (kvs.find? fun p => beqD p.1 k).map (·.2)
def dhas (kvs : List (PyData × PyData)) (k : PyData) : Bool := kvs.any fun p => beqD p.1 k
def dput (kvs : List (PyData × PyData)) (k v : PyData) : List (PyData × PyData) :=
  match dhas kvs k with
  | true => kvs.map fun p => match beqD p.1 k with
    | true => (p.1, v)
    | false => p
  | false => kvs ++ [(k, v)]

/-- the key k goes with the keys that are there: all leaves, or all tuples -/
def kOk (kvs : List (PyData × PyData)) (k : PyData) : Bool := match k with
  | .int _ => kvs.all fun p => !isTupD p.1
  | .str _ => kvs.all fun p => !isTupD p.1
  | .tuple _ => keyable k && kvs.all fun p => isTupD p.1
  | _ => false

/-! ### sorting -/
def leD (a b : PyData) : Bool := !PySem.W.dataLt b a
def insD (x : PyData) : List PyData → List PyData
  | [] => [x]
  | y :: r => match leD x y with
    | true => x :: y :: r
    | false => y :: insD x r
def isort : List PyData → List PyData
  | [] => []
  | x :: r => insD x (isort r)
def allAlike (ds : List PyData) : Bool := ds.all fun d => ds.all fun e => PySem.W.alike d e
def sortable (ds : List PyData) : Bool := (ds.all fun d => match d with
  | .tuple (_ :: _) => true
  | _ => false) || ds.all fun d => match d with
  | .none => false
  | .tuple _ => false
  | _ => true
def sortD (ds : List PyData) : Option (List PyData) := match allAlike ds && (sortable ds && ds.all fun d => decide (d.depth ≤ 60)) with
  | true => some (isort ds)
  | false => none
def dedup : List PyData → List PyData
  | [] => []
  | d :: r => match (dedup r).any (beqD d) with
    | true => dedup r
    | false => d :: dedup r
/-- sorted(set(ds)) -/
def tupKeys (ds : List PyData) : Bool := ds.all fun d => isTupD d && keyable d
def ssetD (ds : List PyData) : Option (List PyData) := match tupKeys ds && decide ((dedup ds).length ≤ 62) with
  | true => sortD (dedup ds)
  | false => none

/-! ### the small language -/
inductive Bop where
  | add | sub | mul | mod | fdiv | pow
  deriving DecidableEq
inductive Cop where
  | eq | ne | lt | le | gt | ge | isin | notin | is | isnot
  deriving DecidableEq
inductive Ty where
  | int | bool | str | tuple | list | dict
  deriving DecidableEq
inductive Bi where
  | len | all | any | tuple | list | sorted | repr | int | str | min | max | sum | dict
  deriving DecidableEq
inductive Mt where
  | get | join | split | index
  deriving DecidableEq
mutual
inductive Tg where
  | nm (i : Nat)
  | tp (ts : Tgs)
inductive Tgs where
  | nil
  | cons (t : Tg) (r : Tgs)
end
mutual
def Tg.slots : Tg → List Nat
  | .nm i => [i]
  | .tp ts => ts.slots
def Tgs.slots : Tgs → List Nat
  | .nil => []
  | .cons t r => t.slots ++ r.slots
end
def Tgs.len : Tgs → Nat
  | .nil => 0
  | .cons _ r => r.len + 1
mutual
inductive E where
  | omit
  | var (i : Nat)
  | cst (d : PyData)
  | glob (n : Str) (d : PyData)
  | tup (es : Es)
  | lst (es : Es)
  | dnew
  | sub (a b : E)
  | slc (a lo hi : E)
  | rev (a : E)
  | bin (o : Bop) (a b : E)
  | neg (a : E)
  | not (a : E)
  | and (a b : E)
  | or (a b : E)
  | cmp (o : Cop) (a b : E)
  | chn (o p : Cop) (a b c : E)
  | ife (c a b : E)
  | call (n : Str) (es : Es)
  | isi (a : E) (t : Ty)
  | bi (b : Bi) (es : Es)
  | sset (a : E)
  | lc (x : E) (t : Tg) (it c : E)
  | dc (k v : E) (t : Tg) (it c : E)
  | rng (lo hi : E)
  | enm (a : E)
  | zip (st : Bool) (a b : E)
  | meth (m : Mt) (o : E) (es : Es)
  | pget (i k : Nat)
inductive Es where
  | nil
  | cons (e : E) (r : Es)
end
inductive Slot where
  | val (x : PyData)
  | own (x : PyData)
  | pen
abbrev Env' := List (Option Slot)

def atD (xs : List PyData) (i : Int) : Option PyData := atI xs i
def subD : PyData → PyData → Option PyData
  | .tuple xs, .int i => atD xs i
  | .list xs, .int i => atD xs i
  | .dict kvs, k => match kOk kvs k with
    | true => dget kvs k
    | false => none
  | _, _ => none
def cutD {α : Type} (xs : List α) (lo hi : Option Int) : List α := (xs.drop (HT.sIx xs.length 0 lo)).take (HT.sIx xs.length xs.length hi - HT.sIx xs.length 0 lo)
def slcD (a : PyData) (lo hi : Option Int) : Option PyData := match a with
  | .tuple xs => some (.tuple (cutD xs lo hi))
  | .list xs => some (.list (cutD xs lo hi))
  | _ => none
def revD : PyData → Option PyData
  | .tuple xs => some (.tuple xs.reverse)
  | .list xs => some (.list xs.reverse)
  | _ => none
def bits64 (i : Int) : Bool := decide (-(2 ^ 64) < i) && decide (i < 2 ^ 64)
def repD {α : Type} (xs : List α) (n : Nat) : List α := (List.replicate n xs).flatten
def binD : Bop → PyData → PyData → Option PyData
  | .add, .int i, .int j => some (.int (i + j))
  | .add, .tuple xs, .tuple ys => match decide (xs.length + ys.length ≤ maxLen) with
    | true => some (.tuple (xs ++ ys))
    | false => none
  | .add, .list xs, .list ys => match decide (xs.length + ys.length ≤ maxLen) with
    | true => some (.list (xs ++ ys))
    | false => none
  | .sub, .int i, .int j => some (.int (i - j))
  | .mul, .int i, .int j => match bits64 i || bits64 j with
    | true => some (.int (i * j))
    | false => none
  | .mul, .tuple xs, .int k => match decide (k ≤ 1000) && (decide (-1000 ≤ k) && decide (xs.length ≤ 1000)) with
    | true => some (.tuple (repD xs k.toNat))
    | false => none
  | .mul, .list xs, .int k => match decide (k < 1000000) && (decide (-1000000 < k) && decide (xs.length * k.toNat ≤ maxLen)) with
    | true => some (.list (repD xs k.toNat))
    | false => none
  | .mod, .int i, .int j => match decide (0 < j) with
    | true => some (.int (i % j))
    | false => none
  | .fdiv, .int i, .int j => match decide (0 < j) && decide (j < 1073741824) with
    | true => some (.int (i / j))
    | false => none
  | .pow, .int i, .int j => match decide (0 ≤ j) && (decide (j ≤ 1000000) && decide (i.natAbs < 2 ^ 64)) with
    | true => some (.int (i ^ j.toNat))
    | false => none
  | _, _, _ => none
def eqD (a b : PyData) : Option Bool := match a.plain && (b.plain && (decide (a.depth ≤ 60) || decide (b.depth ≤ 60))) with
  | true => some (PyData.eqv a b)
  | false => none
def ordG (a b : PyData) (k : Bool) : Option Bool := match PySem.W.alike a b && (!(beqD a .none) && decide (a.depth ≤ 60)) with
  | true => some k
  | false => none
def inD (a : PyData) : PyData → Option Bool
  | .list xs => match PyData.plainAll xs && (a.plain && decide (a.depth ≤ 60)) with
    | true => some (xs.any fun y => PyData.eqv y a)
    | false => none
  | .tuple xs => match PyData.plainAll xs && (a.plain && decide (a.depth ≤ 60)) with
    | true => some (xs.any fun y => PyData.eqv y a)
    | false => none
  | .dict kvs => match kOk kvs a with
    | true => some (dhas kvs a)
    | false => none
  | _ => none
def notO : Option Bool → Option Bool
  | some b => some (!b)
  | none => none
def cmpD : Cop → PyData → PyData → Option Bool
  | .eq, a, b => eqD a b
  | .ne, a, b => notO (eqD a b)
  | .lt, a, b => ordG a b (PySem.W.dataLt a b)
  | .le, a, b => ordG a b (!PySem.W.dataLt b a)
  | .gt, a, b => ordG a b (PySem.W.dataLt b a)
  | .ge, a, b => ordG a b (!PySem.W.dataLt a b)
  | .isin, a, b => inD a b
  | .notin, a, b => notO (inD a b)
  | .is, a, .none => some (beqD a .none)
  | .isnot, a, .none => some (!beqD a .none)
  | _, _, _ => none
def isiD : Ty → PyData → Bool
  | .int, .int _ => true
  | .int, .bool _ => true
  | .bool, .bool _ => true
  | .str, .str _ => true
  | .tuple, .tuple _ => true
  | .list, .list _ => true
  | .dict, .dict _ => true
  | _, _ => false
def boolsD : List PyData → Option (List Bool)
  | [] => some []
  | .bool b :: r => match boolsD r with
    | some bs => some (b :: bs)
    | none => none
  | _ => none
def intsD : List PyData → Option (List Int)
  | [] => some []
  | .int b :: r => match intsD r with
    | some bs => some (b :: bs)
    | none => none
  | _ => none
def reprD (d : PyData) : Option PyData := match d.showable && (decide (d.depth ≤ 60) && decide (d.shown.length ≤ maxLen)) with
  | true => some (.str d.shown)
  | false => none
def tupOf : PyData → Option (List PyData)
  | .list xs => some xs
  | .tuple xs => some xs
  | .dict kvs => some (kvs.map (·.1))
  | _ => none
def dictOfPairs : List PyData → List (PyData × PyData) → Option (List (PyData × PyData))
  | [], acc => some acc
  | .tuple [k, v] :: r, acc => match kOk acc k && decide (acc.length < maxLen) with
    | true => dictOfPairs r (dput acc k v)
    | false => none
  | _, _ => none
def biD : Bi → List PyData → Option PyData
  | .len, [.str x] => match decide (x.length ≤ maxLen) with
    | true => some (.int x.length)
    | false => none
  | .len, [.list xs] => some (.int xs.length)
  | .len, [.tuple xs] => some (.int xs.length)
  | .len, [.dict xs] => some (.int xs.length)
  | .all, [.list xs] => match boolsD xs with
    | some bs => some (.bool (bs.all id))
    | none => none
  | .any, [.list xs] => match boolsD xs with
    | some bs => some (.bool (bs.any id))
    | none => none
  | .tuple, [.list xs] => some (.tuple xs)
  | .tuple, [.tuple xs] => some (.tuple xs)
  | .list, [.list xs] => some (.list xs)
  | .list, [.tuple xs] => some (.list xs)
  | .sorted, [.list xs] => match sortD xs with
    | some ys => some (.list ys)
    | none => none
  | .repr, [d] => reprD d
  | .int, [.int i] => some (.int i)
  | .int, [.bool b] => some (.int (if b then 1 else 0))
  | .str, [.int i] => match decide (i.natAbs.log2 < 1920) with
    | true => some (.str (toString i))
    | false => none
  | .min, [.int i, .int j] => some (.int (if j < i then j else i))
  | .max, [.int i, .int j] => some (.int (if j > i then j else i))
  | .sum, [.list xs] => match intsD xs with
    | some ns => some (.int ns.sum)
    | none => none
  | .dict, [.dict kvs] => some (.dict kvs)
  | .dict, [.list xs] => match dictOfPairs xs [] with
    | some kvs => some (.dict kvs)
    | none => none
  | _, _ => none
def wipeD (δ : Env') : List Nat → Env'
  | [] => δ
  | v :: vs => (wipeD δ vs).set v none
mutual
def asgT : Tg → PyData → Env' → Option Env'
  | .nm i, x, δ => (match decide (i < δ.length) with
    | true => some (δ.set i (some (.val x)))
    | false => none)
  | .tp ts, .tuple xs, δ => asgTs ts xs δ
  | .tp _, _, _ => none
def asgTs : Tgs → List PyData → Env' → Option Env'
  | .nil, [], δ => some δ
  | .cons t r, x :: xs, δ => (match asgT t x δ with
    | some δ' => asgTs r xs δ'
    | none => none)
  | _, _, _ => none
end
/-- what is walked -/
def itemsD : PyData → Option (List PyData)
  | .list xs => some xs
  | .tuple xs => some xs
  | _ => none
def rangeD (lo : Int) : Nat → List PyData
  | 0 => []
  | n + 1 => .int lo :: rangeD (lo + 1) n
def rngD : Option Int → Option Int → Option (List PyData)
  | none, some n => (match decide (-1000000000 < n) && decide (n ≤ maxLen) with
    | true => some (rangeD 0 n.toNat)
    | false => none)
  | some a, some b => (match decide (-1000000000 < a) && (decide (a < 1000000000) && (decide (b < 1000000000) && (decide (-1000000000 < b) && decide (b - a ≤ maxLen)))) with
    | true => some (rangeD a (b - a).toNat)
    | false => none)
  | _, none => none
def enumD (n : Nat) : List PyData → List PyData
  | [] => []
  | x :: r => .tuple [.int n, x] :: enumD (n + 1) r
def zipD : List PyData → List PyData → List PyData
  | x :: r, y :: t => .tuple [x, y] :: zipD r t
  | _, _ => []
/-- the turns of a list comprehension -/
def loopC (f : PyData → M (Option PyData)) : List PyData → M (List PyData)
  | [] => rt []
  | x :: r => bnd (f x) fun o => bnd (loopC f r) fun ys => rt (match o with
    | some y => y :: ys
    | none => ys)
def loopD (f : PyData → M (Option (PyData × PyData))) : List PyData → List (PyData × PyData) → M (List (PyData × PyData))
  | [], acc => rt acc
  | x :: r, acc => bnd (f x) fun o => match o with
    | some (k, v) => (match kOk acc k && decide (acc.length < maxLen) with
      | true => loopD f r (dput acc k v)
      | false => no)
    | none => loopD f r acc
def slotV (r : Bool) (δ : Env') (i : Nat) : M DV := match δ[i]? with
  | some (some (.val x)) => rt (.d x)
  | some (some (.own x)) => (match r with
    | true => rt (.d x)
    | false => no)
  | some (some .pen) => rt .pen
  | _ => no
def ret (o : Option PyData) : M DV := match o with
  | some x => rt (.d x)
  | none => no
def retB (o : Option Bool) : M DV := match o with
  | some x => rt (.d (.bool x))
  | none => no
def intO : DV → M (Option Int)
  | .d (.int i) => rt (some i)
  | _ => no
def methD : Mt → PyData → List PyData → Option PyData
  | .get, .dict kvs, [k] => match kOk kvs k with
    | true => some ((dget kvs k).getD .none)
    | false => none
  | .get, .dict kvs, [k, x] => match kOk kvs k with
    | true => some ((dget kvs k).getD x)
    | false => none
  | _, _, _ => none
def datas : List DV → M (List PyData)
  | [] => rt []
  | .d x :: r => bnd (datas r) fun xs => rt (x :: xs)
  | .pen :: _ => no
/-- an optional int -/
def optM (e : E) (m : M DV) : M (Option Int) := match e with
  | .omit => rt none
  | _ => bnd m intO
/-- a test's truth -/
def tst (m : M DV) : M Bool := bnd m fun x => bnd (dat x) fun x => ofO (truthO x)
/-- a comprehension's condition -/
def cndM (e : E) (m : M DV) : M Bool := match e with
  | .omit => rt true
  | _ => tst m
/-- what is walked -/
def itmM (m : M DV) : M (List PyData) := bnd m fun x => bnd (dat x) fun x => ofO (itemsD x)
def turnC (c : M Bool) (x : M DV) : M (Option PyData) := bnd c fun k => match k with
  | true => bnd x fun y => bnd (dat y) fun y => rt (some y)
  | false => rt none
def turnD (c : M Bool) (k v : M DV) : M (Option (PyData × PyData)) := bnd c fun b => match b with
  | true => bnd k fun x => bnd v fun y => bnd (dat x) fun x => bnd (dat y) fun y => rt (some (x, y))
  | false => rt none
/-- a place of the pen -/
def penG (k : Nat) : DV → M DV
  | .pen => fun g => (match g with
    | some p => (match k with
      | 0 => .ok (.d (.list (p.cells.map .int))) g
      | 1 => .ok (.d (.int p.seat)) g
      | 2 => .ok (.d (.int p.left)) g
      | _ => .no)
    | none => .no)
  | _ => no
/-- what the defs do -/
class Fs where
  f : Str → Fun
variable [Fs]
mutual
def ev (r : Bool) : E → Env' → M DV
  | .omit, _ => no
  | .var i, δ => slotV r δ i
  | .cst d, _ => rt (.d d)
  | .glob _ d, _ => rt (.d d)
  | .tup es, δ => bnd (evs false es δ) fun xs => bnd (datas xs) fun ds => rt (.d (.tuple ds))
  | .lst es, δ => bnd (evs false es δ) fun xs => bnd (datas xs) fun ds => rt (.d (.list ds))
  | .dnew, _ => rt (.d (.dict []))
  | .sub a b, δ => bnd (ev true a δ) fun x => bnd (ev false b δ) fun y => bnd (dat x) fun x => bnd (dat y) fun y => ret (subD x y)
  | .slc a lo hi, δ => bnd (ev true a δ) fun x => bnd (optM lo (ev false lo δ)) fun l => bnd (optM hi (ev false hi δ)) fun h => bnd (dat x) fun x => ret (slcD x l h)
  | .rev a, δ => bnd (ev true a δ) fun x => bnd (dat x) fun x => ret (revD x)
  | .bin o a b, δ => bnd (ev true a δ) fun x => bnd (ev true b δ) fun y => bnd (dat x) fun x => bnd (dat y) fun y => ret (binD o x y)
  | .neg a, δ => bnd (ev false a δ) fun x => bnd (intO x) fun o => match o with
    | some i => rt (.d (.int (-i)))
    | none => no
  | .not a, δ => bnd (tst (ev true a δ)) fun b => rt (.d (.bool (!b)))
  | .and a b, δ => bnd (ev r a δ) fun x => bnd (dat x) fun x => bnd (ofO (truthO x)) fun k => match k with
    | true => ev r b δ
    | false => rt (.d x)
  | .or a b, δ => bnd (ev r a δ) fun x => bnd (dat x) fun x => bnd (ofO (truthO x)) fun k => match k with
    | true => rt (.d x)
    | false => ev r b δ
  | .cmp o a b, δ => bnd (ev true a δ) fun x => bnd (ev true b δ) fun y => bnd (dat x) fun x => bnd (dat y) fun y => retB (cmpD o x y)
  | .chn o p a b c, δ => bnd (ev false a δ) fun x => bnd (ev false b δ) fun y => bnd (dat x) fun x => bnd (dat y) fun y => bnd (ofO (cmpD o x y)) fun k => match k with
    | true => bnd (ev false c δ) fun z => bnd (dat z) fun z => retB (cmpD p y z)
    | false => rt (.d (.bool false))
  | .ife c a b, δ => bnd (tst (ev true c δ)) fun k => match k with
    | true => ev r a δ
    | false => ev r b δ
  | .call n es, δ => bnd (evs false es δ) (Fs.f n)
  | .isi a t, δ => bnd (ev true a δ) fun x => bnd (dat x) fun x => rt (.d (.bool (isiD t x)))
  | .bi b es, δ => bnd (evs true es δ) fun xs => bnd (datas xs) fun ds => ret (biD b ds)
  | .sset a, δ => bnd (ev true a δ) fun x => bnd (dat x) fun x => bnd (ofO (itemsD x)) fun ds => bnd (ofO (ssetD ds)) fun ys => rt (.d (.list ys))
  | .lc x t it c, δ => bnd (itmM (ev true it δ)) fun ds => bnd (noX (loopC (fun d => bnd (ofO (asgT t d (wipeD δ t.slots))) fun δ' => turnC (cndM c (ev true c δ')) (ev false x δ')) ds)) fun ys => rt (.d (.list ys))
  | .dc k v t it c, δ => bnd (itmM (ev true it δ)) fun ds => bnd (noX (loopD (fun d => bnd (ofO (asgT t d (wipeD δ t.slots))) fun δ' => turnD (cndM c (ev true c δ')) (ev false k δ') (ev false v δ')) ds [])) fun kvs => rt (.d (.dict kvs))
  | .rng lo hi, δ => bnd (optM lo (ev false lo δ)) fun l => bnd (optM hi (ev false hi δ)) fun h => bnd (ofO (rngD l h)) fun ys => rt (.d (.list ys))
  | .enm a, δ => bnd (itmM (ev r a δ)) fun ds => rt (.d (.list (enumD 0 ds)))
  | .zip st a b, δ => bnd (itmM (ev r a δ)) fun xs => bnd (itmM (ev r b δ)) fun ys => match !st || decide (xs.length = ys.length) with
    | true => rt (.d (.list (zipD xs ys)))
    | false => no
  | .meth m o es, δ => bnd (ev true o δ) fun x => bnd (dat x) fun x => bnd (evs true es δ) fun xs => bnd (datas xs) fun ds => ret (methD m x ds)
  | .pget i k, δ => bnd (slotV false δ i) fun x => penG k x
def evs (r : Bool) : Es → Env' → M (List DV)
  | .nil, _ => rt []
  | .cons e es, δ => bnd (ev r e δ) fun x => bnd (evs r es δ) fun xs => rt (x :: xs)
end
end Ld
/-! text LdC -/
set_option Elab.async false
set_option linter.all false
set_option maxRecDepth 100000
set_option maxHeartbeats 4000000
namespace Ld
open PySem PySem.Spec L2
open PyProof.Rows hiding St

/-! ### states -/
/-- a list or a dict that may be written -/
def Ow (K : PySem.W.Frag) (w : World) (H : Hp) (d : PyData) (v : V) : Prop := match d with
  | .list ds => ∃ a vs, v = .ref a ∧ H a = some (.lst vs) ∧ RpA K w H ds vs
  | .dict kvs => ∃ a, v = .ref a ∧ ((∃ ns, H a = some (dn w a ns) ∧ RpN K w H kvs ns) ∨ ∃ ls, H a = some (.dK ls) ∧ RpL K w H kvs ls)
  | _ => False
def PenOk (K : PySem.W.Frag) (w : World) (H : Hp) (pa : Option Addr) (g : G) : Prop := match g with
  | none => pa = none
  | some p => ∃ a c, pa = some a ∧ H a = some (.lst [.ref c, .int p.seat, .int p.left]) ∧ Rp K w H (.list (p.cells.map .int)) (.ref c)
/-- all that was there is there as it was, but for the pen -/
structure Stp (K : PySem.W.Frag) (w : World) (H : Hp) (pa : Option Addr) (H' : Hp) (pa' : Option Addr) (g' : G) : Prop where
  gr : ∀ a o, H a = some o → pa ≠ some a → H' a = some o
  kp : Kp H H'
  pen : PenOk K w H' pa' g'
  same : pa = pa' ∨ (pa = none ∧ ∀ a, pa' = some a → H a = none)
theorem PenOk.not {K : PySem.W.Frag} {w : World} {H : Hp} {pa : Option Addr} {g : G} (p : PenOk K w H pa g) {a : Addr} {o : HO} (h : H a = some o) (n : ∀ xs, o ≠ .lst xs) : pa ≠ some a := by
  cases g with
  | none => intro e; rw [show pa = none from p] at e; cases e
  | some q =>
    obtain ⟨b, c, e, hb, _⟩ := p
    intro e2
    rw [e] at e2
    cases e2
    rw [h] at hb
    exact n _ (Option.some.inj hb)
theorem Stp.refl {K : PySem.W.Frag} {w : World} {H : Hp} {pa : Option Addr} {g : G} (p : PenOk K w H pa g) : Stp K w H pa H pa g := ⟨fun _ _ h _ => h, Kp.refl H, p, .inl rfl⟩
theorem Stp.trans {K : PySem.W.Frag} {w : World} {H H1 H2 : Hp} {pa p1 p2 : Option Addr} {g1 g2 : G} (a : Stp K w H pa H1 p1 g1) (b : Stp K w H1 p1 H2 p2 g2) : Stp K w H pa H2 p2 g2 where
  gr := fun c o h n => by
    refine b.gr c o (a.gr c o h n) ?_
    rcases a.same with e | ⟨_, f⟩
    · rw [← e]; exact n
    · intro e; rw [f c e] at h; cases h
  kp := a.kp.trans b.kp
  pen := b.pen
  same := by
    rcases a.same with e | ⟨e, f⟩
    · rcases b.same with e2 | ⟨e2, f2⟩
      · exact .inl (e.trans e2)
      · refine .inr ⟨e.trans e2, fun c hc => ?_⟩
        have hn := f2 c hc
        cases q : H c with
        | none => rfl
        | some o =>
          have := a.gr c o q (by rw [e, e2]; intro z; cases z)
          rw [hn] at this; cases this
    · rcases b.same with e2 | ⟨e2, f2⟩
      · exact .inr ⟨e, fun c hc => f c (e2 ▸ hc)⟩
      · refine .inr ⟨e, fun c hc => ?_⟩
        have hn := f2 c hc
        cases q : H c with
        | none => rfl
        | some o =>
          have := a.gr c o q (by rw [e]; intro z; cases z)
          rw [hn] at this; cases this
/-- one new object -/
theorem Kp.new {H : Hp} {p : Addr} {o : HO} (n : H p = none) : Kp H (upd H p o) := ⟨fun a xs h => by rw [upd_ne (ne_of_none h n)]; exact h, fun a ob u h => by rw [upd_ne (ne_of_none h n)]; exact h⟩
theorem PenOk.kp {K : PySem.W.Frag} {w : World} {H H' : Hp} {pa : Option Addr} {g : G} (p : PenOk K w H pa g) (k : Kp H H') (h : ∀ a o, H a = some o → pa = some a → H' a = some o) : PenOk K w H' pa g := by
  cases g with
  | none => exact p
  | some q =>
    obtain ⟨a, c, e, hb, r⟩ := p
    exact ⟨a, c, e, h a _ hb e, r.kp k⟩
theorem Stp.new {K : PySem.W.Frag} {w : World} {H : Hp} {pa : Option Addr} {g : G} {p : Addr} {o : HO} (q : PenOk K w H pa g) (n : H p = none) : Stp K w H pa (upd H p o) pa g where
  gr := fun a u h _ => by rw [upd_ne (ne_of_none h n)]; exact h
  kp := Kp.new n
  pen := q.kp (Kp.new n) fun a u h _ => by rw [upd_ne (ne_of_none h n)]; exact h
  same := .inl rfl

/-- how an expression is asked: for a datum to be kept, to be looked at, for a new list or dict of one's own -/
inductive Md where
  | pure | read | own
  deriving DecidableEq
def Md.b : Md → Bool
  | .read => true
  | _ => false
def mutD : DV → Bool
  | .d (.list _) => true
  | .d (.dict _) => true
  | _ => false
def DvOk (r : Md) (K : PySem.W.Frag) (w : World) (H : Hp) (pa : Option Addr) (x : DV) (v : V) : Prop := match x with
  | .d d => (match r with
    | .pure => Rp K w H d v
    | .read => Rp K w H d v ∨ (Ow K w H d v ∧ ∀ a, v = .ref a → pa ≠ some a)
    | .own => mutD (.d d) = true → Ow K w H d v ∧ ∀ a, v = .ref a → pa ≠ some a)
  | .pen => ∃ a, pa = some a ∧ v = .ref a
theorem Ow.step {K : PySem.W.Frag} {w : World} {H H' : Hp} {pa pa' : Option Addr} {g' : G} {d : PyData} {v : V} (h : Ow K w H d v) (n : ∀ a, v = .ref a → pa ≠ some a) (st : Stp K w H pa H' pa' g') :
    Ow K w H' d v ∧ ∀ a, v = .ref a → pa' ≠ some a := by
  have key : ∀ a o, v = .ref a → H a = some o → H' a = some o ∧ pa' ≠ some a := fun a o e ho => by
    refine ⟨st.gr a o ho (n a e), ?_⟩
    rcases st.same with q | ⟨_, f⟩
    · rw [← q]; exact n a e
    · intro z; rw [f a z] at ho; cases ho
  cases d with
  | list ds =>
    obtain ⟨a, vs, e, ho, r⟩ := h
    refine ⟨⟨a, vs, e, (key a _ e ho).1, r.kp st.kp⟩, fun b hb => ?_⟩
    rw [e] at hb; cases hb
    exact (key a _ e ho).2
  | dict kvs =>
    obtain ⟨a, e, ⟨ns, ho, r⟩ | ⟨ns, ho, r⟩⟩ := h
    · refine ⟨⟨a, e, .inl ⟨ns, (key a _ e ho).1, r.kp st.kp⟩⟩, fun b hb => ?_⟩
      rw [e] at hb; cases hb
      exact (key a _ e ho).2
    · refine ⟨⟨a, e, .inr ⟨ns, (key a _ e ho).1, r.kp st.kp⟩⟩, fun b hb => ?_⟩
      rw [e] at hb; cases hb
      exact (key a _ e ho).2
  | _ => exact False.elim h
theorem DvOk.step {r : Md} {K : PySem.W.Frag} {w : World} {H H' : Hp} {pa pa' : Option Addr} {g' : G} {x : DV} {v : V} (h : DvOk r K w H pa x v) (st : Stp K w H pa H' pa' g') : DvOk r K w H' pa' x v := by
  cases x with
  | d x =>
    cases r with
    | pure => exact Rp.kp st.kp h
    | read =>
      rcases h with h | ⟨h2, h3⟩
      · exact .inl (h.kp st.kp)
      · exact .inr (h2.step h3 st)
    | own => exact fun e => (h e).1.step (h e).2 st
  | pen =>
    obtain ⟨a, e, rfl⟩ := h
    rcases st.same with q | ⟨q, _⟩
    · exact ⟨a, by rw [← q]; exact e, rfl⟩
    · rw [q] at e; cases e
theorem Stp.back {K : PySem.W.Frag} {w : World} {H H' : Hp} {pa pa' : Option Addr} {g' : G} (st : Stp K w H pa H' pa' g') {a : Addr} (n : H' a = none) : H a = none := by
  cases q : H a with
  | none => rfl
  | some o =>
    by_cases hp : pa = some a
    · have hp' : pa' = some a := by
        rcases st.same with e | ⟨e, _⟩
        · rw [← e]; exact hp
        · rw [e] at hp; cases hp
      have z := st.pen
      cases g' with
      | none => rw [show pa' = none from z] at hp'; cases hp'
      | some p =>
        obtain ⟨b, c, e, hb, _⟩ := z
        rw [hp'] at e; cases e
        rw [n] at hb; cases hb
    · have := st.gr a o q hp
      rw [n] at this; cases this

def SlotOk (K : PySem.W.Frag) (w : World) (HB H : Hp) (pa : Option Addr) (s : Slot) (v : V) : Prop := match s with
  | .val d => Rp K w H d v
  | .own d => Ow K w H d v ∧ ∀ a, v = .ref a → pa ≠ some a ∧ HB a = none
  | .pen => ∃ a, pa = some a ∧ v = .ref a
/-- the state: HB, pb the heap and the pen at the def's entry -/
structure StOk (K : PySem.W.Frag) (w : World) (HB : Hp) (pb : Option Addr) (σ : St) (H : Hp) (pa : Option Addr) (δ : Env') (g : G) : Prop where
  len : σ.length = δ.length
  slot : ∀ (i : Nat) (s : Slot), δ[i]? = some (some s) → ∃ v, σ[i]? = some (some v) ∧ SlotOk K w HB H pa s v
  apart : ∀ (i j : Nat) (x y : PyData), i ≠ j → δ[i]? = some (some (.own x)) → δ[j]? = some (some (.own y)) → σ[i]? ≠ σ[j]?
  base : Stp K w HB pb H pa g
theorem SlotOk.step {K : PySem.W.Frag} {w : World} {HB H H' : Hp} {pa pa' : Option Addr} {g' : G} {s : Slot} {v : V} (h : SlotOk K w HB H pa s v) (st : Stp K w H pa H' pa' g') : SlotOk K w HB H' pa' s v := by
  cases s with
  | val x => exact Rp.kp st.kp h
  | own x =>
    obtain ⟨h1, h2⟩ := h
    have q := h1.step (fun a e => (h2 a e).1) st
    exact ⟨q.1, fun a e => ⟨q.2 a e, (h2 a e).2⟩⟩
  | pen => exact DvOk.step (r := .pure) (x := .pen) h st
theorem StOk.step {K : PySem.W.Frag} {w : World} {HB H H' : Hp} {pb pa pa' : Option Addr} {g g' : G} {σ : St} {δ : Env'} (S : StOk K w HB pb σ H pa δ g) (st : Stp K w H pa H' pa' g') : StOk K w HB pb σ H' pa' δ g' where
  len := S.len
  slot := fun i s h => let ⟨v, h1, h2⟩ := S.slot i s h; ⟨v, h1, h2.step st⟩
  apart := S.apart
  base := S.base.trans st
theorem StOk.pen {K : PySem.W.Frag} {w : World} {HB H : Hp} {pb pa : Option Addr} {g : G} {σ : St} {δ : Env'} (S : StOk K w HB pb σ H pa δ g) : PenOk K w H pa g := S.base.pen

/-! ### what is wanted of a result -/
/-- how an exception of the program lies: class number, fields, heap; class, its own dict -/
abbrev EX := Nat → List (Str × PyData) → Hp → Value → Option Addr → Prop
section
variable (K : PySem.W.Frag) (w : World) (ex : EX) (W : WX)
def post (σ : St) (H : Hp) (pa : Option Addr) (r : Md) (x : Res DV) (Q : VK) : Prop := match x with
  | .ok x g' => ∀ v H' pa', Stp K w H pa H' pa' g' → DvOk r K w H' pa' x v → (r = .own → mutD x = true → ∀ a, v = .ref a → H a = none) → Q v H'
  | .exc c fs g' => ∀ C d H' pa', Stp K w H pa H' pa' g' → ex c fs H' C d → W C d σ H'
  | .no => False
/-- of any result, by what is wanted of a good one -/
def postG {α : Type} (σ : St) (H : Hp) (pa : Option Addr) (x : Res α) (P : α → G → Hp → Option Addr → Prop) : Prop := match x with
  | .ok x g' => ∀ H' pa', Stp K w H pa H' pa' g' → P x g' H' pa'
  | .exc c fs g' => ∀ C d H' pa', Stp K w H pa H' pa' g' → ex c fs H' C d → W C d σ H'
  | .no => False
def tE [Fs] (HB : Hp) (pb : Option Addr) (r : Md) (e : E) : TE := fun σ H Q => ∃ δ g pa, StOk K w HB pb σ H pa δ g ∧ post K w ex W σ H pa r (ev r.b e δ g) Q
end
section
variable {K : PySem.W.Frag} {w : World} {ex : EX} {W : WX} {σ : St} {H H1 : Hp} {pa p1 : Option Addr} {r r' : Md} {Q : VK}
theorem post_step {g1 : G} (st : Stp K w H pa H1 p1 g1) {x : Res DV} (h : post K w ex W σ H pa r x Q) : post K w ex W σ H1 p1 r x Q := by
  cases x with
  | ok x g' => exact fun v H' pa' s2 d f => h v H' pa' (st.trans s2) d fun e m a hv => st.back (f e m a hv)
  | exc c fs g' => exact fun C d H' pa' s2 q => h C d H' pa' (st.trans s2) q
  | no => exact h
theorem postG_step {α : Type} {g1 : G} (st : Stp K w H pa H1 p1 g1) {x : Res α} {P : α → G → Hp → Option Addr → Prop} (h : postG K w ex W σ H pa x P) : postG K w ex W σ H1 p1 x P := by
  cases x with
  | ok x g' => exact fun H' pa' s2 => h H' pa' (st.trans s2)
  | exc c fs g' => exact fun C d H' pa' s2 q => h C d H' pa' (st.trans s2) q
  | no => exact h
/-- a result handed on -/
theorem post_bnd {m : M DV} {f : DV → M DV} {g : G} (h : post K w ex W σ H pa r' (bnd m f g) Q) :
    post K w ex W σ H pa r (m g) fun v H1 => ∃ x g1 p1, Stp K w H pa H1 p1 g1 ∧ DvOk r K w H1 p1 x v ∧ post K w ex W σ H1 p1 r' (f x g1) Q := by
  unfold bnd at h
  cases q : m g with
  | ok x g' =>
    rw [q] at h
    exact fun v H' pa' st d _ => ⟨x, g', pa', st, d, post_step st h⟩
  | exc c fs g' => rw [q] at h; exact h
  | no => rw [q] at h; exact h
/-- to a result of another kind -/
theorem postG_bnd {α β : Type} {m : M α} {f : α → M β} {g : G} {P : β → G → Hp → Option Addr → Prop} (h : postG K w ex W σ H pa (bnd m f g) P) :
    postG K w ex W σ H pa (m g) fun x g1 H1 p1 => postG K w ex W σ H1 p1 (f x g1) P := by
  unfold bnd at h
  cases q : m g with
  | ok x g' =>
    rw [q] at h
    exact fun H' pa' st => postG_step st h
  | exc c fs g' => rw [q] at h; exact h
  | no => rw [q] at h; exact h
theorem post_bndG {α : Type} {m : M α} {f : α → M DV} {g : G} (h : post K w ex W σ H pa r (bnd m f g) Q) :
    postG K w ex W σ H pa (m g) fun x g1 H1 p1 => post K w ex W σ H1 p1 r (f x g1) Q := by
  unfold bnd at h
  cases q : m g with
  | ok x g' =>
    rw [q] at h
    exact fun H' pa' st => post_step st h
  | exc c fs g' => rw [q] at h; exact h
  | no => rw [q] at h; exact h
/-- pure steps behind -/
theorem post_dat {x : DV} {f : PyData → M DV} {g : G} (h : post K w ex W σ H pa r (bnd (dat x) f g) Q) : ∃ d, x = .d d ∧ post K w ex W σ H pa r (f d g) Q := by
  cases x with
  | d d => exact ⟨d, rfl, h⟩
  | pen => exact h.elim
theorem post_ofO {α : Type} {x : Option α} {f : α → M DV} {g : G} (h : post K w ex W σ H pa r (bnd (ofO x) f g) Q) : ∃ d, x = some d ∧ post K w ex W σ H pa r (f d g) Q := by
  cases x with
  | some d => exact ⟨d, rfl, h⟩
  | none => exact h.elim
theorem post_ret {x : Option PyData} {g : G} (h : post K w ex W σ H pa r (ret x g) Q) : ∃ d, x = some d ∧ post K w ex W σ H pa r (.ok (.d d) g) Q := by
  cases x with
  | some d => exact ⟨d, rfl, h⟩
  | none => exact h.elim
theorem post_retB {x : Option Bool} {g : G} (h : post K w ex W σ H pa r (retB x g) Q) : ∃ d, x = some d ∧ post K w ex W σ H pa r (.ok (.d (.bool d)) g) Q := by
  cases x with
  | some d => exact ⟨d, rfl, h⟩
  | none => exact h.elim
theorem post_mono {x : Res DV} {Q' : VK} (h : post K w ex W σ H pa r x Q) (hq : ∀ v H', Q v H' → Q' v H') : post K w ex W σ H pa r x Q' := by
  cases x with
  | ok x g' => exact fun v H' pa' s2 d f => hq _ _ (h v H' pa' s2 d f)
  | exc c fs g' => exact h
  | no => exact h
theorem postG_mono {α : Type} {x : Res α} {P P' : α → G → Hp → Option Addr → Prop} (h : postG K w ex W σ H pa x P) (hq : ∀ a g H' p, P a g H' p → P' a g H' p) : postG K w ex W σ H pa x P' := by
  cases x with
  | ok x g' => exact fun H' pa' s2 => hq _ _ _ _ (h H' pa' s2)
  | exc c fs g' => exact h
  | no => exact h
/-- a value that is no list and no dict, whatever is asked -/
theorem post_flat {d : PyData} {g : G} {v : V} (h : post K w ex W σ H pa r (.ok (.d d) g) Q) (p : PenOk K w H pa g) (hv : Rp K w H d v) (hm : mutD (.d d) = false) : Q v H := by
  refine h v H pa (Stp.refl p) ?_ (fun _ e => by rw [hm] at e; cases e)
  cases r with
  | pure => exact hv
  | read => exact .inl hv
  | own => exact fun e => by rw [hm] at e; cases e
end
/-- a stronger reading -/
theorem pe_mono {X : Cx} {e : Expr} {t t' : TE} (h : PE X e t) (hm : ∀ σ H Q, t' σ H Q → t σ H Q) : PE X e t' := ⟨fun pins s σ H Q I q => h.run pins s σ H Q I (hm _ _ _ q)⟩
theorem pt_mono {X : Cx} {e : Expr} {t t' : TT} (h : PT X e t) (hm : ∀ σ H Q, t' σ H Q → t σ H Q) : PT X e t' := ⟨fun pins s σ H Q I q => h.run pins s σ H Q I (hm _ _ _ q)⟩
theorem pw_mono {X : Cx} {e : Expr} {t t' : TT} (h : PW X e t) (hm : ∀ σ H Q, t' σ H Q → t σ H Q) : PW X e t' := ⟨fun wh pins s σ H Q I q => h.run wh pins s σ H Q I (hm _ _ _ q)⟩
theorem pa_mono {X : Cx} {e : List Expr} {t t' : TA} (h : PA X e t) (hm : ∀ σ H Q, t' σ H Q → t σ H Q) : PA X e t' := ⟨fun p pins s σ H Q I q => h.run p pins s σ H Q I (hm _ _ _ q)⟩
theorem ps_mono {X : Cx} {e : Stmt} {t t' : TS} (h : PS X e t) (hm : ∀ D σ H, t' D σ H → t D σ H) : PS X e t' := ⟨fun pins s σ H D I q => h.run pins s σ H D I (hm _ _ _ q)⟩
theorem pss_mono {X : Cx} {e : List Stmt} {t t' : TS} (h : PSs X e t) (hm : ∀ D σ H, t' D σ H → t D σ H) : PSs X e t' := ⟨fun pins s σ H D I q => h.run pins s σ H D I (hm _ _ _ q)⟩
theorem pi_mono {X : Cx} {tg e : Expr} {t t' : TI} (h : PI X tg e t) (hm : ∀ σ H R, t' σ H R → t σ H R) : PI X tg e t' := ⟨fun pins s σ H R I q => h.run pins s σ H R I (hm _ _ _ q)⟩
end Ld
/-! text LdD -/
set_option Elab.async false
set_option linter.all false
set_option maxRecDepth 100000
set_option maxHeartbeats 4000000
namespace Ld
open PySem PySem.Spec L2
open PyProof.Rows hiding St

theorem maxLen_le : maxLen ≤ sizeLine := by rw [sizeLine_eq]; decide
/-- a good result -/
def okP (K : PySem.W.Frag) (w : World) (H : Hp) (pa : Option Addr) (r : Md) (x : DV) (g : G) (Q : VK) : Prop :=
  ∀ v H' pa', Stp K w H pa H' pa' g → DvOk r K w H' pa' x v → (r = .own → mutD x = true → ∀ a, v = .ref a → H a = none) → Q v H'
section
variable {K : PySem.W.Frag} {w : World} {H H' : Hp} {pa : Option Addr} {r : Md} {g : G} {Q : VK}
theorem okP_rp {d : PyData} {v : V} (h : okP K w H pa r (.d d) g Q) (st : Stp K w H pa H' pa g) (rp : Rp K w H' d v) (hm : mutD (.d d) = false) : Q v H' := by
  refine h v H' pa st ?_ (fun _ e => by rw [hm] at e; cases e)
  cases r with
  | pure => exact rp
  | read => exact .inl rp
  | own => exact fun e => by rw [hm] at e; cases e
theorem okP_here {d : PyData} {v : V} (h : okP K w H pa r (.d d) g Q) (p : PenOk K w H pa g) (rp : Rp K w H d v) (hm : mutD (.d d) = false) : Q v H := okP_rp h (Stp.refl p) rp hm
/-! ### what an operand is -/
theorem rd_flat {d : PyData} {v : V} (h : DvOk .read K w H pa (.d d) v) (hm : mutD (.d d) = false) : Rp K w H d v := by
  rcases h with h | ⟨h, _⟩
  · exact h
  · cases d with
    | list _ => cases hm
    | dict _ => cases hm
    | _ => exact h.elim
theorem rd_int {i : Int} {v : V} (h : DvOk .read K w H pa (.d (.int i)) v) : v = .int i := by cases rd_flat h rfl; rfl
theorem rd_bool {i : Bool} {v : V} (h : DvOk .read K w H pa (.d (.bool i)) v) : v = .bl i := by cases rd_flat h rfl; rfl
theorem rd_str {i : Str} {v : V} (h : DvOk .read K w H pa (.d (.str i)) v) : v = .str i := by cases rd_flat h rfl; rfl
theorem rd_none {v : V} (h : DvOk .read K w H pa (.d .none) v) : v = .non := by cases rd_flat h rfl; rfl
theorem rd_tup {ds : List PyData} {v : V} (h : DvOk .read K w H pa (.d (.tuple ds)) v) : ∃ a vs, v = .ref a ∧ SqT K H a vs ∧ RpA K w H ds vs := by
  cases rd_flat h rfl with
  | tup a b => exact ⟨_, _, rfl, a, b⟩
theorem rd_lst {ds : List PyData} {v : V} (h : DvOk .read K w H pa (.d (.list ds)) v) : ∃ a vs, v = .ref a ∧ SqL K H a vs ∧ RpA K w H ds vs ∧ (H a = some (.lst vs) ∨ FrzL K H a vs) := by
  rcases h with h | ⟨⟨a, vs, e, ha, r⟩, _⟩
  · cases h with
    | lst a b => exact ⟨_, _, rfl, a.sqL, b, .inr a⟩
  · exact ⟨a, vs, e, .inl (.inl ha), r, .inl ha⟩
theorem rd_dct {kvs : List (PyData × PyData)} {v : V} (h : DvOk .read K w H pa (.d (.dict kvs)) v) : ∃ a, v = .ref a ∧ ((∃ ns, Rd H a (dn w a ns) ∧ RpN K w H kvs ns) ∨ ∃ ls, Rd H a (.dK ls) ∧ RpL K w H kvs ls) := by
  rcases h with h | ⟨⟨a, e, h⟩, _⟩
  · cases h with
    | dct a b => exact ⟨_, rfl, .inl ⟨_, .inr ⟨_, a⟩, b⟩⟩
    | dcl a b => exact ⟨_, rfl, .inr ⟨_, .inr ⟨_, a⟩, b⟩⟩
  · rcases h with ⟨ns, ha, r⟩ | ⟨ns, ha, r⟩
    · exact ⟨a, e, .inl ⟨ns, .inl ha, r⟩⟩
    · exact ⟨a, e, .inr ⟨ns, .inl ha, r⟩⟩
end
section
variable {X : Cx} {pins : List (Addr × Obj)} {σ : St} {H : Hp} {s : Shared} {pa : Option Addr} {r : Md} {g : G} {Q : VK}
theorem rd_lstO (I : Inv X pins σ H s) {ds : List PyData} {v : V} (h : DvOk .read X.K X.w H pa (.d (.list ds)) v) :
    ∃ a vs its n, v = .ref a ∧ RpA X.K X.w H ds vs ∧ Vals vs its ∧ s.heap.get? a = some { cls := .type "list", data := .seq (its : List Value).toArray n } ∧ vs.length ≤ sizeLine ∧ SqL X.K H a vs := by
  obtain ⟨a, vs, e, sq, rp, hh⟩ := rd_lst h
  rcases hh with hh | ⟨o, hh⟩ | ⟨its, n, hk, z, rv⟩
  · obtain ⟨z, its, n, rv, e2⟩ := I.hok _ _ hh
    exact ⟨a, vs, its, n, e, rp, rv, e2, z, sq⟩
  · obtain ⟨_, z, its, n, rv, e2⟩ := I.hok _ _ hh
    exact ⟨a, vs, its, n, e, rp, rv, e2, z, sq⟩
  · exact ⟨a, vs, its, n, e, rp, rv, I.kIn a _ hk, z, sq⟩
/-- what an operand reads as -/
theorem rd_reads2 (I : Inv X pins σ H s) {d : PyData} {v : V} {u : Value} (h : DvOk .read X.K X.w H pa (.d d) v) (rv : RelV v u) : Rds s u d := by
  rcases h with h | ⟨h, _⟩
  · exact Rp.reads2 I h rv
  · cases d with
    | list ds =>
      obtain ⟨a, vs, rfl, ha, r⟩ := h
      cases rv
      obtain ⟨_, its, n, rv, e2⟩ := I.hok _ _ ha
      obtain ⟨as, q, n1⟩ := RpA.reads2 I r rv
      exact ⟨_, .list e2 rfl rfl q, fun n h => (List.mem_cons.mp h).elim (ns_ne e2 rfl (by decide) n) (n1 n)⟩
    | dict kvs =>
      obtain ⟨a, rfl, ⟨ns, ha, q⟩ | ⟨ls, ha, q⟩⟩ := h
      · cases rv
        obtain ⟨⟨z, _, _, o, es, ep, ho, hc, hd, hp⟩, _⟩ := I.hok _ _ ha
        obtain ⟨as, h1, n1⟩ := RpN.readsK I q hp
        obtain ⟨bs, h2, n2⟩ := RpN.readsV I q hp
        exact ⟨_, .dict ho hc.1 hd h1 h2, fun n h => (List.mem_append.mp h).elim (fun h => (List.mem_cons.mp h).elim (fun e => by simp [e] at z) (n1 n)) (n2 n)⟩
      · cases rv
        obtain ⟨_, z, vs, kv, o, es, ep, ho, hc, hd, hk, hp, _⟩ := I.hok _ _ ha
        obtain ⟨as, h1, n1⟩ := RpL.readsK I q kv hp
        obtain ⟨bs, h2, n2⟩ := RpL.readsV I q kv hp
        exact ⟨_, .dict ho hc.1 hd h1 h2, fun n h => (List.mem_append.mp h).elim (fun h => (List.mem_cons.mp h).elim (fun e => by simp [e] at z) (n1 n)) (n2 n)⟩
    | _ => exact h.elim
theorem rd_reads (I : Inv X pins σ H s) {d : PyData} {v : V} {u : Value} (h : DvOk .read X.K X.w H pa (.d d) v) (rv : RelV v u) : ∃ as, Reads s.heap u d as := let ⟨as, a, _⟩ := rd_reads2 I h rv; ⟨as, a⟩
/-! ### a new object handed on -/
theorem fin_tup {p : Addr} {vs : List V} {ds : List PyData} {s' : Shared} (I : Inv X pins σ (upd H p (.tup vs)) s') (n : H p = none) (q : PenOk X.K X.w H pa g) (rp : RpA X.K X.w H ds vs) (h : okP X.K X.w H pa r (.d (.tuple ds)) g Q) : EP X pins σ Q (.ref p) s' :=
  ⟨.ref p, _, I, rfl, okP_rp h (Stp.new q n) (.tup (.inl (.inl upd_same)) (rp.kp (Kp.new n))) rfl⟩
theorem ne_pen {a : Addr} (q : PenOk X.K X.w H pa g) (n : H a = none) : pa ≠ some a := by
  cases g with
  | none => intro e; rw [show pa = none from q] at e; cases e
  | some p =>
    obtain ⟨b, c, e, hb, _⟩ := q
    intro e2
    rw [e] at e2; cases e2
    rw [n] at hb; cases hb
theorem fin_lst {p : Addr} {vs : List V} {ds : List PyData} {s' : Shared} (I : Inv X pins σ (upd H p (.lst vs)) s') (n : H p = none) (q : PenOk X.K X.w H pa g) (rp : RpA X.K X.w H ds vs) (h : okP X.K X.w H pa r (.d (.list ds)) g Q) : EP X pins σ Q (.ref p) s' := by
  have ow : Ow X.K X.w (upd H p (.lst vs)) (.list ds) (.ref p) := ⟨p, vs, rfl, upd_same, rp.kp (Kp.new n)⟩
  have np : ∀ a, V.ref p = .ref a → pa ≠ some a := fun a e => by cases e; exact ne_pen q n
  cases r with
  | pure =>
    obtain ⟨od, I2⟩ := I.lock (upd_same (H := H)) trivial
    rw [upd_upd] at I2
    exact ⟨.ref p, _, I2, rfl, h _ _ pa (Stp.new q n) (.lst (.inl ⟨_, upd_same⟩) (rp.kp (Kp.new n))) (fun e => by cases e)⟩
  | read => exact ⟨.ref p, _, I, rfl, h _ _ pa (Stp.new q n) (.inr ⟨ow, np⟩) (fun e => by cases e)⟩
  | own => exact ⟨.ref p, _, I, rfl, h _ _ pa (Stp.new q n) (fun _ => ⟨ow, np⟩) (fun _ _ a e => by cases e; exact n)⟩
theorem fin_dcl {p : Addr} {ns : List (Key × V)} {kvs : List (PyData × PyData)} {s' : Shared} (I : Inv X pins σ (upd H p (.dK ns)) s') (n : H p = none) (q : PenOk X.K X.w H pa g) (rp : RpL X.K X.w H kvs ns) (h : okP X.K X.w H pa r (.d (.dict kvs)) g Q) : EP X pins σ Q (.ref p) s' := by
  have ow : Ow X.K X.w (upd H p (.dK ns)) (.dict kvs) (.ref p) := ⟨p, rfl, .inr ⟨ns, upd_same, rp.kp (Kp.new n)⟩⟩
  have np : ∀ a, V.ref p = .ref a → pa ≠ some a := fun a e => by cases e; exact ne_pen q n
  cases r with
  | pure =>
    obtain ⟨od, I2⟩ := I.lock (upd_same (H := H)) trivial
    rw [upd_upd] at I2
    exact ⟨.ref p, _, I2, rfl, h _ _ pa (Stp.new q n) (.dcl upd_same (rp.kp (Kp.new n))) (fun e => by cases e)⟩
  | read => exact ⟨.ref p, _, I, rfl, h _ _ pa (Stp.new q n) (.inr ⟨ow, np⟩) (fun e => by cases e)⟩
  | own => exact ⟨.ref p, _, I, rfl, h _ _ pa (Stp.new q n) (fun _ => ⟨ow, np⟩) (fun _ _ a e => by cases e; exact n)⟩
theorem fin_dct {p : Addr} {ns : List NEnt} {kvs : List (PyData × PyData)} {s' : Shared} (I : Inv X pins σ (upd H p (dn X.w p ns)) s') (n : H p = none) (q : PenOk X.K X.w H pa g) (rp : RpN X.K X.w H kvs ns) (h : okP X.K X.w H pa r (.d (.dict kvs)) g Q) : EP X pins σ Q (.ref p) s' := by
  have ow : Ow X.K X.w (upd H p (dn X.w p ns)) (.dict kvs) (.ref p) := ⟨p, rfl, .inl ⟨ns, upd_same, rp.kp (Kp.new n)⟩⟩
  have np : ∀ a, V.ref p = .ref a → pa ≠ some a := fun a e => by cases e; exact ne_pen q n
  cases r with
  | pure =>
    obtain ⟨od, I2⟩ := I.lock (upd_same (H := H)) trivial
    rw [upd_upd] at I2
    exact ⟨.ref p, _, I2, rfl, h _ _ pa (Stp.new q n) (.dct upd_same (rp.kp (Kp.new n))) (fun e => by cases e)⟩
  | read => exact ⟨.ref p, _, I, rfl, h _ _ pa (Stp.new q n) (.inr ⟨ow, np⟩) (fun e => by cases e)⟩
  | own => exact ⟨.ref p, _, I, rfl, h _ _ pa (Stp.new q n) (fun _ => ⟨ow, np⟩) (fun _ _ a e => by cases e; exact n)⟩
theorem ep_here {d : PyData} {v : V} {u : Value} {s' : Shared} (I : Inv X pins σ H s') (rv : RelV v u) (q : PenOk X.K X.w H pa g) (rp : Rp X.K X.w H d v) (hm : mutD (.d d) = false) (h : okP X.K X.w H pa r (.d d) g Q) : EP X pins σ Q u s' :=
  ⟨v, H, I, rv, okP_here h q rp hm⟩
end

/-! ### operators -/
def opOf : Bop → Operator
  | .add => .Add
  | .sub => .Sub
  | .mul => .Mult
  | .mod => .Mod
  | .fdiv => .FloorDiv
  | .pow => .Pow
/-- two operands that are looked at -/
def rB (K : PySem.W.Frag) (w : World) (r : Md) (f : PyData → PyData → Option PyData) : R2 := fun vx vy H Q => ∃ pa g x y z, PenOk K w H pa g ∧ DvOk .read K w H pa (.d x) vx ∧ DvOk .read K w H pa (.d y) vy ∧ f x y = some z ∧ okP K w H pa r (.d z) g Q
theorem mth {α : Type} {b : Bool} {x z : α} (h : (match b with | true => some x | false => none) = some z) : b = true ∧ x = z := by
  cases b with
  | true => exact ⟨rfl, Option.some.inj h⟩
  | false => cases h
section
variable {X : Cx} {r : Md}
theorem len_rv {vs : List V} {its : List Value} (h : Vals vs its) : its.length = vs.length := h.length.symm
end
end Ld
namespace Ld
open PySem PySem.Spec L2 Sem
open PyProof.Rows hiding St
open PySem.AutoSeq1 (wpAny_loadPart')
theorem tmul_same (l : Addr) (items : Array Value) (n : Nat) (dd : Option Addr) (sl : Array (Option Value)) (x : Int) (u : Tok) (c0 : (decide (x < -(2 ^ 63)) || decide (x ≥ 2 ^ 63)) = false) (c1 : (items.isEmpty || x == 1) = true) :
    Meets (Builtin.«tuple.__mul__» ⟨[.ref l, .int x u], []⟩) (fun _ R s => s.heap.get? l = some { cls := .type "tuple", dict := dd, data := .seq items n, slots := sl } ∧ R (.ok (.ret (Value.ref l))) s) :=
  .of_wp fun prog w A R s h => by
    obtain ⟨hp, g, d, tk, os⟩ := s
    obtain ⟨hl, h⟩ := h
    have f1 := AutoSeq1.idx_int
    wp_walk using wpAny_loadPart' hl
    repeat (first
      | (refine wpAny_ite_false (decide_eq_false (by rw [c0]; exact Bool.false_ne_true)) ?_; wp_walk using wpAny_loadPart' hl)
      | (refine wpAny_ite_true (decide_eq_true c1) ?_; wp_walk using wpAny_loadPart' hl))
    exact ⟨_, rfl, h⟩
theorem tmul_nil (l : Addr) (items : Array Value) (n : Nat) (dd : Option Addr) (sl : Array (Option Value)) (x : Int) (u : Tok) (c0 : (decide (x < -(2 ^ 63)) || decide (x ≥ 2 ^ 63)) = false) (c1 : (items.isEmpty || x == 1) = false) (c2 : (decide (x ≤ 0) || items.isEmpty) = true) :
    Meets (Builtin.«tuple.__mul__» ⟨[.ref l, .int x u], []⟩) (fun _ R s => s.heap.get? l = some { cls := .type "tuple", dict := dd, data := .seq items n, slots := sl } ∧
      R (.ok (.ret (Value.ref s.heap.objs.size))) { s with heap := s.heap.push { cls := Value.type "tuple", data := Data.seq #[] } }) :=
  .of_wp fun prog w A R s h => by
    obtain ⟨hp, g, d, tk, os⟩ := s
    obtain ⟨hl, h⟩ := h
    have f1 := AutoSeq1.idx_int
    wp_walk using wpAny_loadPart' hl
    repeat (first
      | (refine wpAny_ite_false (decide_eq_false (by rw [c0]; exact Bool.false_ne_true)) ?_; wp_walk using wpAny_loadPart' hl)
      | (refine wpAny_ite_false (decide_eq_false (by rw [c1]; exact Bool.false_ne_true)) ?_; wp_walk using wpAny_loadPart' hl)
      | (refine wpAny_ite_true (decide_eq_true c2) ?_; wp_walk using wpAny_loadPart' hl))
    exact ⟨_, rfl, h⟩
end Ld
namespace Ld
open PySem PySem.Spec L2
open PyProof.Rows hiding St
section
variable {X : Cx} {r : Md}
/-- t * n -/
theorem tup_mul {pins : List (Addr × Obj)} {s : Shared} {σ : St} {H : Hp} {a : Addr} {vs : List V} {k : Int} {t : Tok} {Q : VK} (I : Inv X pins σ H s) (h : SqT X.K H a vs) (h1 : k ≤ 1000) (h0 : -1000 ≤ k) (hz : vs.length ≤ 1000)
    (q1 : repD vs k.toNat = vs → Q (.ref a) H) (q2 : ∀ p, H p = none → Q (.ref p) (upd H p (.tup (repD vs k.toNat)))) : wpAny (model X.prog X.w) X.A (binaryOp .Mult (.ref a) (.int k t)) (EP X pins σ Q) X.xe s := by
  by_cases hb : vs ≠ [] ∧ 2 ≤ k
  · exact op_repT pins s σ H (.ref a) (.int k) _ _ Q I rfl ⟨t, rfl⟩ ⟨a, k, vs, rfl, rfl, h, hb.1, hb.2, h1, hz, q2⟩
  · obtain ⟨its, rv, ⟨⟨cls, dd, data, sl⟩, ho, hc, n, hd⟩, hs⟩ := I.tuple h
    simp only at hc hd
    subst hc hd
    have hl := len_rv rv
    have c0 : (decide (k < -(2 ^ 63)) || decide (k ≥ 2 ^ 63)) = false := by
      rw [decide_eq_false (by omega), decide_eq_false (by omega)] <;> rfl
    have em : its.toArray.isEmpty = vs.isEmpty := by
      cases its <;> cases vs <;> simp_all
    by_cases hm : vs = [] ∨ k = 1
    · have c1 : (its.toArray.isEmpty || k == 1) = true := by
        rw [em]
        rcases hm with e | e
        · rw [e]; rfl
        · rw [e]; simp
      refine wpAny_binaryOp_repeat_ref (T := "tuple") (U := "int") (by decide) ⟨_, ho, rfl⟩ (fun s' => typeIs_int s' k t) noFill_tuple_mul F.fills_int_mul F.slot_int_rmul repeat_tuple F.slot_int_index.lookup
        (call_meets F.slot_int_rmul (typeIs_int s k t) F.entry_int_rmul (F.args_int_rmul_2 _ _) (int_rmul_tuple k t a its.toArray n dd sl)
          ⟨ho, rfl, ⟨_, ho, rfl⟩, call_meets F.slot_tuple_mul ⟨_, ho, rfl⟩ F.entry_tuple_mul (F.args_tuple_mul_2 _ _) (tmul_same a its.toArray n dd sl k t c0 c1) ⟨ho, ?_⟩⟩)
      refine ⟨.ref a, H, I, rfl, q1 ?_⟩
      rcases hm with e | e
      · rw [e]; simp [repD]
      · rw [e]; simp [repD]
    · have hv : vs ≠ [] := fun e => hm (.inl e)
      have hk : k ≤ 0 := by
        have h3 : ¬ 2 ≤ k := fun e => hb ⟨hv, e⟩
        have h4 : k ≠ 1 := fun e => hm (.inr e)
        omega
      have hemp : vs.isEmpty = false := by cases vs <;> simp_all
      have c1 : (its.toArray.isEmpty || k == 1) = false := by
        rw [em, hemp, Bool.false_or]
        exact beq_eq_false_iff_ne.mpr (by omega)
      have c2 : (decide (k ≤ 0) || its.toArray.isEmpty) = true := by rw [decide_eq_true hk, Bool.true_or]
      refine wpAny_binaryOp_repeat_ref (T := "tuple") (U := "int") (by decide) ⟨_, ho, rfl⟩ (fun s' => typeIs_int s' k t) noFill_tuple_mul F.fills_int_mul F.slot_int_rmul repeat_tuple F.slot_int_index.lookup
        (call_meets F.slot_int_rmul (typeIs_int s k t) F.entry_int_rmul (F.args_int_rmul_2 _ _) (int_rmul_tuple k t a its.toArray n dd sl)
          ⟨ho, rfl, ⟨_, ho, rfl⟩, call_meets F.slot_tuple_mul ⟨_, ho, rfl⟩ F.entry_tuple_mul (F.args_tuple_mul_2 _ _) (tmul_nil a its.toArray n dd sl k t c0 c1 c2) ⟨ho, ?_⟩⟩)
      have er : repD vs k.toNat = [] := by
        have : k.toNat = 0 := by omega
        rw [this]; rfl
      rw [er] at q2
      exact ⟨.ref s.heap.objs.size, _, I.laid (t' := s.toks) (o := .tup []) (fun b ob q => Heap.get?_push_of_some _ q) (Nat.le_refl _) ⟨Nat.zero_le _, [], .nil, IsTup.new _ _⟩, rfl, q2 _ (I.hok.fresh (Nat.le_refl _))⟩
theorem lst_mul {pins : List (Addr × Obj)} {s : Shared} {σ : St} {H : Hp} {l : Addr} {vs : List V} {its : List Value} {n : Nat} {k : Int} {t : Tok} {Q : Value → Shared → Prop} (I : Inv X pins σ H s) (ho : s.heap.get? l = some { cls := .type "list", data := .seq its.toArray n }) (rv : Vals vs its)
    (h1 : -(2 ^ 63) ≤ k) (h2 : k < 2 ^ 63) (hz : vs.length * k.toNat ≤ sizeLine) (q : ∀ p s', H p = none → Inv X pins σ (upd H p (.lst (repD vs k.toNat))) s' → Q (.ref p) s') :
    wpAny (model X.prog X.w) X.A (binaryOp .Mult (.ref l) (.int k t)) Q X.xe s := by
  have hlen : its.toArray.size * k.toNat ≤ sizeLine := by
    rw [List.size_toArray, len_rv rv]; exact hz
  have hcap : ¬ its.toArray.size * k.toNat > (2 ^ 63 - 1) / 8 := by
    have z : (sizeLine : Nat) ≤ (2 ^ 63 - 1) / 8 := by decide
    omega
  have hfit : ¬ (!Builtin.List.listFitsIndex k) = true := by
    rw [fitsIndex_both h1 h2]; decide
  have hlong : ¬ Builtin.List.listTooLong (its.toArray.size * k.toNat) = true := by
    rw [notLongL hlen]; decide
  have hnew : List.foldl (fun x1 x2 => x1 ++ x2) #[] (List.replicate (if its.toArray.isEmpty = true then 0 else k.toNat) its.toArray) = (repD its k.toNat).toArray := by
    cases its with
    | nil => simp [repD]
    | cons a r' =>
      rw [if_neg (by simp)]
      exact size_rep _ _
  have hrep : ∀ m, Vals (repD vs m) (repD its m) := fun m => rv.rep m
  refine wpAny_binaryOp_repeat_ref (T := "list") (U := "int") (by decide) ⟨_, ho, rfl⟩ (fun s' => typeIs_int s' k t) noFill_list_mul F.fills_int_mul F.slot_int_rmul repeat_list F.slot_int_index.lookup
    (call_meets F.slot_int_rmul (typeIs_int s k t) F.entry_int_rmul (F.args_int_rmul_2 _ _) (int___rmul___int_list k t l its.toArray n)
      ⟨ho, rfl, ⟨_, ho, rfl⟩, call_meets F.slot_list_mul ⟨_, ho, rfl⟩ F.entry_list_mul (F.args_list_mul_2 _ _) (AutoListH.list___mul___list_int_3 l its.toArray n k t hfit hcap hlong) ⟨ho, ?_⟩⟩)
  rw [hnew]
  exact q _ _ I.fresh (I.lnew (t' := s.toks) (hrep k.toNat) (by unfold repD; rw [PyProof.Rows.lm_len_rep_flat, Nat.mul_comm]; exact hz))
theorem rpA_rep {K : PySem.W.Frag} {w : World} {H : Hp} {ds : List PyData} {vs : List V} (h : RpA K w H ds vs) : ∀ n, RpA K w H (repD ds n) (repD vs n)
  | 0 => .nil
  | n + 1 => by
    have e1 : repD ds (n + 1) = ds ++ repD ds n := by simp [repD, List.replicate_succ]
    have e2 : repD vs (n + 1) = vs ++ repD vs n := by simp [repD, List.replicate_succ]
    rw [e1, e2]
    exact h.append (rpA_rep h n)
theorem bits_ok {i j : Int} (h : (bits64 i || bits64 j) = true) : IntMulOk i j := by
  rw [Bool.or_eq_true] at h
  rcases h with h | h
  · simp only [bits64, Bool.and_eq_true, decide_eq_true_eq] at h
    exact IntMulOk.of_left (intBits_le_64 h.1 h.2)
  · simp only [bits64, Bool.and_eq_true, decide_eq_true_eq] at h
    exact IntMulOk.of_right (intBits_le_64 h.1 h.2)
theorem op_bin (o : Bop) : OpR X (binaryOp (opOf o)) (rB X.K X.w r (binD o)) := by
  intro pins s σ H vx vy ux uy Q I rx ry h
  obtain ⟨pa, g, x, y, z, pen, dx, dy, e, q⟩ := h
  have twoI : ∀ i j, x = .int i → y = .int j → ∃ t u, ux = Value.int i t ∧ uy = Value.int j u := fun i j e1 e2 => by
    subst e1 e2
    rw [rd_int dx] at rx
    rw [rd_int dy] at ry
    obtain ⟨t, e1⟩ := rx
    obtain ⟨u, e2⟩ := ry
    exact ⟨t, u, e1, e2⟩
  have fin : ∀ {z' : Int} {t : Tok} {n : Nat}, z = .int z' → EP X pins σ Q (.int z' t) { s with toks := n } := fun {z' t n} ez => by
    subst ez
    exact ep_here (v := .int z') (I.tok n) ⟨t, rfl⟩ pen (.int _) rfl q
  cases o with
  | add =>
    cases x <;> try (simp only [binD, reduceCtorEq] at e)
    case int i =>
      cases y <;> simp only [binD, reduceCtorEq, Option.some.injEq] at e
      rename_i j
      obtain ⟨t, u, rfl, rfl⟩ := twoI i j rfl rfl
      exact PyProof.Rows.add_int (fin e.symm)
    case tuple xs =>
      cases y <;> try (simp only [binD, reduceCtorEq] at e)
      rename_i ys
      obtain ⟨hz, rfl⟩ := mth e
      obtain ⟨a, vs, rfl, sa, ra⟩ := rd_tup dx
      obtain ⟨b, us, rfl, sb, rb⟩ := rd_tup dy
      have hl : vs.length + us.length ≤ sizeLine := by
        rw [← ra.length, ← rb.length]
        exact Nat.le_trans (of_decide_eq_true hz) maxLen_le
      refine op_catA pins s σ H _ _ ux uy Q I rx ry ⟨a, b, vs, us, rfl, rfl, sa, sb, hl, fun ev => ?_, fun _ eu => ?_, fun _ _ p np => ?_⟩
      · subst ev
        cases ra
        exact okP_here q pen (.tup sb rb) rfl
      · subst eu
        cases rb
        rw [List.append_nil] at q
        exact okP_here q pen (.tup sa ra) rfl
      · exact okP_rp q (Stp.new pen np) (.tup (.inl (.inl upd_same)) ((ra.append rb).kp (Kp.new np))) rfl
    case list xs =>
      cases y <;> try (simp only [binD, reduceCtorEq] at e)
      rename_i ys
      obtain ⟨hz, rfl⟩ := mth e
      obtain ⟨a, vs, its, n, rfl, ra, rv, ho, _, _⟩ := rd_lstO I dx
      obtain ⟨b, us, its2, n2, rfl, rb, rv2, ho2, _, _⟩ := rd_lstO I dy
      cases rx
      cases ry
      have hl : vs.length + us.length ≤ sizeLine := by
        rw [← ra.length, ← rb.length]
        exact Nat.le_trans (of_decide_eq_true hz) maxLen_le
      refine PySem.P.add_list ho ho2 ?_ (by rw [List.size_toArray, List.size_toArray, len_rv rv, len_rv rv2]; exact hl)
      have ea : its.toArray ++ its2.toArray = (its ++ its2).toArray := by simp
      rw [ea]
      exact fin_lst (I.lnew (t' := s.toks) (rv.append rv2) (by rw [List.length_append]; exact hl)) I.fresh pen (ra.append rb) q
  | sub =>
    cases x <;> try (simp only [binD, reduceCtorEq] at e)
    rename_i i
    cases y <;> simp only [binD, reduceCtorEq, Option.some.injEq] at e
    rename_i j
    obtain ⟨t, u, rfl, rfl⟩ := twoI i j rfl rfl
    exact PyProof.Rows.sub_int (fin e.symm)
  | mul =>
    cases x <;> try (simp only [binD, reduceCtorEq] at e)
    case int i =>
      cases y <;> try (simp only [binD, reduceCtorEq] at e)
      rename_i j
      obtain ⟨hb, ez⟩ := mth e
      obtain ⟨t, u, rfl, rfl⟩ := twoI i j rfl rfl
      exact PyProof.Rows.mul_int (fin ez.symm) (bits_ok hb)
    case tuple xs =>
      cases y <;> try (simp only [binD, reduceCtorEq] at e)
      rename_i k
      obtain ⟨hb, rfl⟩ := mth e
      simp only [Bool.and_eq_true, decide_eq_true_eq] at hb
      obtain ⟨a, vs, rfl, sa, ra⟩ := rd_tup dx
      have ek := rd_int dy
      subst ek
      cases rx
      obtain ⟨t, rfl⟩ := ry
      refine tup_mul I sa hb.1 hb.2.1 (by rw [← ra.length]; exact hb.2.2) (fun ee => ?_) fun p np => ?_
      · have := rpA_rep ra k.toNat
        rw [ee] at this
        exact okP_here q pen (.tup sa this) rfl
      · exact okP_rp q (Stp.new pen np) (.tup (.inl (.inl upd_same)) ((rpA_rep ra k.toNat).kp (Kp.new np))) rfl
    case list xs =>
      cases y <;> try (simp only [binD, reduceCtorEq] at e)
      rename_i k
      obtain ⟨hb, rfl⟩ := mth e
      simp only [Bool.and_eq_true, decide_eq_true_eq] at hb
      obtain ⟨a, vs, its, n, rfl, ra, rv, ho, _, _⟩ := rd_lstO I dx
      have ek := rd_int dy
      subst ek
      cases rx
      obtain ⟨t, rfl⟩ := ry
      exact lst_mul I ho rv (by omega) (by omega) (by rw [← ra.length]; exact Nat.le_trans hb.2.2 maxLen_le) fun p s' np I2 => fin_lst I2 np pen (rpA_rep ra k.toNat) q
  | mod =>
    cases x <;> try (simp only [binD, reduceCtorEq] at e)
    rename_i i
    cases y <;> try (simp only [binD, reduceCtorEq] at e)
    rename_i j
    obtain ⟨hb, ez⟩ := mth e
    obtain ⟨t, u, rfl, rfl⟩ := twoI i j rfl rfl
    exact op_mod pins s σ H (.int i) (.int j) _ _ Q I ⟨t, rfl⟩ ⟨u, rfl⟩ ⟨i, j, rfl, rfl, of_decide_eq_true hb, by subst ez; exact okP_here q pen (.int _) rfl⟩
  | fdiv =>
    cases x <;> try (simp only [binD, reduceCtorEq] at e)
    rename_i i
    cases y <;> try (simp only [binD, reduceCtorEq] at e)
    rename_i j
    obtain ⟨hb, ez⟩ := mth e
    simp only [Bool.and_eq_true, decide_eq_true_eq] at hb
    obtain ⟨t, u, rfl, rfl⟩ := twoI i j rfl rfl
    exact op_fdiv pins s σ H (.int i) (.int j) _ _ Q I ⟨t, rfl⟩ ⟨u, rfl⟩ ⟨i, j, rfl, rfl, hb, by subst ez; exact okP_here q pen (.int _) rfl⟩
  | pow =>
    cases x <;> try (simp only [binD, reduceCtorEq] at e)
    rename_i i
    cases y <;> try (simp only [binD, reduceCtorEq] at e)
    rename_i j
    obtain ⟨hb, ez⟩ := mth e
    simp only [Bool.and_eq_true, decide_eq_true_eq] at hb
    obtain ⟨t, u, rfl, rfl⟩ := twoI i j rfl rfl
    exact op_pow pins s σ H (.int i) (.int j) _ _ Q I ⟨t, rfl⟩ ⟨u, rfl⟩ ⟨i, j, rfl, rfl, ⟨hb.1, hb.2.1, hb.2.2⟩, by subst ez; exact okP_here q pen (.int _) rfl⟩
end
end Ld
/-! text LdE -/
set_option Elab.async false
set_option linter.all false
set_option maxRecDepth 100000
set_option maxHeartbeats 4000000
namespace Ld
open PySem PySem.Spec L2
open PyProof.Rows hiding St

/-! ### keys -/
def kKey : PyData → Option Key
  | .int i => some (.inl i)
  | .str x => some (.inr x)
  | _ => none
theorem kd_inj {a b : Key} (h : kd a = kd b) : a = b := by
  cases a <;> cases b <;> simp_all [kd]
section
variable {X : Cx} {pins : List (Addr × Obj)} {σ : St} {H : Hp} {s : Shared}
mutual
theorem rp_key (I : Inv X pins σ H s) : ∀ (k : NestedKey) {v : V} {u : Value}, Rp X.K X.w H k.data v → RelV v u → NestedIs s.heap k u
  | .none, _, _, h, r => by cases h; cases r; exact .none
  | .num i, _, _, h, r => by cases h; obtain ⟨t, rfl⟩ := r; exact .int _ _
  | .text i, _, _, h, r => by cases h; obtain ⟨t, rfl⟩ := r; exact .text _ _
  | .tup ks, _, _, h, r => by
    simp only [NestedKey.data] at h
    cases h with
    | tup hs ha =>
      cases r
      obtain ⟨its, rv, ⟨o, ho, hc, n, hd⟩, _⟩ := I.tuple hs
      exact .tup ho hc hd (rp_keys I ks ha rv)
theorem rp_keys (I : Inv X pins σ H s) : ∀ (ks : List NestedKey) {vs : List V} {us : List Value}, RpA X.K X.w H (NestedKey.datas ks) vs → Vals vs us → NestedAll s.heap ks us
  | [], _, _, h, r => by
    simp only [NestedKey.datas] at h
    cases h; cases r; exact .nil
  | k :: ks, _, _, h, r => by
    simp only [NestedKey.datas] at h
    cases h with
    | cons h1 h2 =>
      cases r with
      | cons r1 r2 => exact .cons (rp_key I k h1 r1) (rp_keys I ks h2 r2)
end
/-- a look-up and what it gives -/
def Met (K : PySem.W.Frag) (w : World) (H : Hp) (o : Option PyData) (q : Option Value) : Prop := match o, q with
  | some d, some u => ∃ v, Rp K w H d v ∧ RelV v u
  | none, none => True
  | _, _ => False
theorem Met.isSome {K : PySem.W.Frag} {w : World} {H : Hp} {o : Option PyData} {q : Option Value} (h : Met K w H o q) : q.isSome = o.isSome := by
  cases o <;> cases q <;> first | rfl | exact h.elim
theorem dhas_eq (kvs : List (PyData × PyData)) (k : PyData) : dhas kvs k = (dget kvs k).isSome := by
  unfold dhas dget
  induction kvs with
  | nil => rfl
  | cons p r ih =>
    cases h : beqD p.1 k with
    | true => simp [h]
    | false => simpa [h] using ih
theorem met_leaf {K : PySem.W.Frag} {w : World} {H : Hp} : ∀ {kvs : List (PyData × PyData)} {ls : List (Key × V)} {vs : List (Key × Value)}, RpL K w H kvs ls → KV ls vs → ∀ k : Key, Met K w H (dget kvs (kd k)) (valueAt vs k)
  | _, _, _, .nil, kv, k => by cases kv; trivial
  | _, _, _, .cons (d := d) (e := e) (k := k') hd he hr, kv, k => by
    cases kv with
    | cons k1 k2 =>
      rename_i vv _ kv1 vr
      obtain ⟨kk, u⟩ := kv1
      obtain ⟨e1, e2⟩ := k1
      simp only at e1 e2
      subst e1 hd
      have ih := met_leaf hr k2 k
      by_cases hk : k' = k
      · subst hk
        unfold dget valueAt
        simp only [List.find?_cons, beqD_self, decide_true, Option.map_some]
        exact ⟨_, he, e2⟩
      · have h1 : beqD (kd k') (kd k) = false := by
          cases q : beqD (kd k') (kd k) with
          | false => rfl
          | true => exact absurd (kd_inj (eq_of_beqD _ _ q)) hk
        unfold dget valueAt at ih ⊢
        simp only [List.find?_cons, h1, decide_eq_false hk]
        exact ih
/-- the entries as the library has them -/
abbrev XsOk : List NEnt → List (NestedKey × Addr × Value) → Prop := Paired fun p q => p.1 = q.1 ∧ p.2.1 = q.2.1 ∧ RelV p.2.2 q.2.2
theorem ents_of {P : Program} {w : World} : ∀ {ns : List NEnt} {es : List DictEntry}, Paired (entOk w) ns es → ∃ xs, XsOk ns xs ∧ es = xs.map (entryOfKey (nestedKind P w))
  | _, _, .nil => ⟨[], .nil, rfl⟩
  | _, _, .cons (a := n) (b := e) h t => by
    obtain ⟨xs, h1, h2⟩ := ents_of (P := P) t
    obtain ⟨k, b, v⟩ := n
    obtain ⟨eh, ek, ev⟩ := e
    obtain ⟨a1, a2, a3⟩ := h
    simp only at a1 a2 a3
    exact ⟨(k, b, ev) :: xs, .cons ⟨rfl, rfl, a3⟩ h1, by rw [List.map_cons, ← h2, a1, a2]; rfl⟩
theorem ents_back {P : Program} {w : World} : ∀ {ns : List NEnt} {xs : List (NestedKey × Addr × Value)}, XsOk ns xs → Paired (entOk w) ns (xs.map (entryOfKey (nestedKind P w)))
  | _, _, .nil => .nil
  | _, _, .cons (a := n) (b := e) h t => by
    obtain ⟨k, b, v⟩ := n
    obtain ⟨k', b', u⟩ := e
    obtain ⟨a1, a2, a3⟩ := h
    simp only at a1 a2 a3
    subst a1 a2
    exact .cons ⟨rfl, rfl, a3⟩ (ents_back t)
theorem met_tup {K : PySem.W.Frag} {w : World} {H : Hp} : ∀ {kvs : List (PyData × PyData)} {ns : List NEnt} {xs : List (NestedKey × Addr × Value)}, RpN K w H kvs ns → XsOk ns xs → ∀ k : NestedKey, Met K w H (dget kvs k.data) ((atKey xs k).map (·.2))
  | _, _, _, .nil, kv, k => by cases kv; trivial
  | _, _, _, .cons (d := d) (e := e) (k := k') hd hb he hr, kv, k => by
    cases kv with
    | cons k1 k2 =>
      rename_i _ vv _ kv1 vr
      obtain ⟨kk, b', u⟩ := kv1
      obtain ⟨e1, e2, e3⟩ := k1
      simp only at e1 e2 e3
      obtain ⟨hd, _⟩ := hd
      subst e1 hd e2
      have ih := met_tup hr k2 k
      by_cases hk : k' = k
      · subst hk
        unfold dget atKey
        simp only [List.find?_cons, beqD_self, decide_true, Option.map_some]
        exact ⟨_, he, e3⟩
      · have h1 : beqD k'.data k.data = false := by
          cases q : beqD k'.data k.data with
          | false => rfl
          | true => exact absurd (data_inj _ _ (eq_of_beqD _ _ q)) hk
        unfold dget atKey at ih ⊢
        simp only [List.find?_cons, h1, decide_eq_false hk]
        exact ih
theorem dnOk (I : Inv X pins σ H s) {a : Addr} {ns : List NEnt} (h : Rd H a (dn X.w a ns)) : DN X.w a ns s.heap := (h.ok I.hok).1
/-- a dict with tuple keys, as the library has it -/
theorem dn_road (I : Inv X pins σ H s) {a : Addr} {ns : List NEnt} {kvs : List (PyData × PyData)} (h : Rd H a (dn X.w a ns)) (r : RpN X.K X.w H kvs ns) :
    (a == sysModules) = false ∧ ns.length ≤ sizeLine ∧ ∃ xs, XsOk ns xs ∧ s.heap.DictOfH (nestedKind X.prog X.w) a xs := by
  obtain ⟨h1, h2, h3, o, es, ep, ho, hc, hd, hp⟩ := dnOk I h
  obtain ⟨xs, x1, x2⟩ := ents_of (P := X.prog) hp
  refine ⟨h1, h2, xs, x1, o, es, ep, ho, hc, hd, x2, ?_, ?_⟩
  · clear h hp x2 h3 h2
    induction x1 generalizing kvs with
    | nil => intro x hx; cases hx
    | cons q t ih =>
      rename_i p y l1 l2
      obtain ⟨k, b, v⟩ := p
      obtain ⟨k', b', u⟩ := y
      obtain ⟨a1, a2, a3⟩ := q
      simp only at a1 a2 a3
      subst a1 a2
      cases r with
      | cons e1 e2 e3 e4 =>
        intro x hx
        rcases List.mem_cons.mp hx with rfl | hx
        · obtain ⟨e1, e5⟩ := e1
          subst e1
          exact ⟨rp_key I k e2 rfl, e5⟩
        · exact ih e4 x hx
  · have : xs.map (·.1) = ns.map (·.1) := by
      clear h hp x2 h3 h2 r
      induction x1 with
      | nil => rfl
      | cons q t ih => rw [List.map_cons, List.map_cons, ih, q.1]
    rw [this]
    exact h3
/-- an empty dict of the other kind -/
theorem dk_empty_road (I : Inv X pins σ H s) {a : Addr} (h : Rd H a (.dK [])) : (a == sysModules) = false ∧ s.heap.DictOfH (nestedKind X.prog X.w) a [] := by
  obtain ⟨_, hd, vs, kv, o, es, ep, ho, hc, hdat, hk, hp, hn⟩ := h.ok I.hok
  cases kv
  have e0 : es.toList = [] := by
    cases q : es.toList with
    | nil => rfl
    | cons e r => rw [q] at hp; cases hp
  exact ⟨hd, o, es, ep, ho, hc, hdat, by rw [e0]; rfl, fun x hx => (List.not_mem_nil hx).elim, List.nodup_nil⟩
theorem dn_empty_road (I : Inv X pins σ H s) {a : Addr} (h : Rd H a (dn X.w a [])) : (a == sysModules) = false ∧ s.heap.DictOf (mixKind X.prog X.w) a [] := by
  obtain ⟨h1, h2, h3, o, es, ep, ho, hc, hdat, hp⟩ := dnOk I h
  have e0 : es.toList = [] := by
    cases q : es.toList with
    | nil => rfl
    | cons e r => rw [q] at hp; cases hp
  have e1 : es = #[] := by
    have := congrArg List.toArray e0
    simpa using this
  subst e1
  exact ⟨h1, o, _, ep, ho, hc, hdat, fun e he => by simp at he, .nil, List.nodup_nil⟩
theorem data_ref {K : PySem.W.Frag} {w : World} {H : Hp} (k : NestedKey) {b : Addr} (h : Rp K w H k.data (.ref b)) : isTupD k.data = true := by
  cases k <;> simp only [NestedKey.data] at h ⊢
  · cases h
  · cases h
  · cases h
  · rfl
theorem rpN_tups {K : PySem.W.Frag} {w : World} {H : Hp} {kvs : List (PyData × PyData)} {ns : List NEnt} (r : RpN K w H kvs ns) (h : (kvs.all fun p => !isTupD p.1) = true) : kvs = [] ∧ ns = [] := by
  cases r with
  | nil => exact ⟨rfl, rfl⟩
  | cons e1 e2 e3 e4 =>
    exfalso
    rw [List.all_cons, Bool.and_eq_true] at h
    obtain ⟨e1, _⟩ := e1
    subst e1
    have := data_ref _ e2
    simp [this] at h
theorem rpL_leaves {K : PySem.W.Frag} {w : World} {H : Hp} {kvs : List (PyData × PyData)} {ns : List (Key × V)} (r : RpL K w H kvs ns) (h : (kvs.all fun p => isTupD p.1) = true) : kvs = [] ∧ ns = [] := by
  cases r with
  | nil => exact ⟨rfl, rfl⟩
  | cons e1 e2 e3 =>
    exfalso
    rw [List.all_cons, Bool.and_eq_true] at h
    rename_i k _ _
    subst e1
    cases k <;> simp [kd, isTupD] at h
/-- how a key meets a dict -/
inductive Road (X : Cx) (s : Shared) (H : Hp) (a : Addr) (kvs : List (PyData × PyData)) (k : PyData) (u : Value) : Prop
  | leaf (key : Key) (vs : List (Key × Value)) : (a == sysModules) = false → k = kd key → (mixKind X.prog X.w).is key u = true → s.heap.DictOf (mixKind X.prog X.w) a vs → Met X.K X.w H (dget kvs k) (valueAt vs key) → Road X s H a kvs k u
  | tup (nk : NestedKey) (b : Addr) (xs : List (NestedKey × Addr × Value)) : (a == sysModules) = false → k = nk.data → u = .ref b → (nestedKind X.prog X.w).is s.heap nk b → s.heap.DictOfH (nestedKind X.prog X.w) a xs → Met X.K X.w H (dget kvs k) ((atKey xs nk).map (·.2)) → Road X s H a kvs k u
theorem road {pa : Option Addr} (I : Inv X pins σ H s) {kvs : List (PyData × PyData)} {v kv : V} {k : PyData} {u ku : Value} (h : DvOk .read X.K X.w H pa (.d (.dict kvs)) v) (hk : kOk kvs k = true) (rk : Rp X.K X.w H k kv) (r : RelV v u) (r2 : RelV kv ku) :
    ∃ a, v = .ref a ∧ Road X s H a kvs k ku := by
  obtain ⟨a, rfl, hh⟩ := rd_dct h
  refine ⟨a, rfl, ?_⟩
  have leaf : ∀ key : Key, k = kd key → kV key = kv → Road X s H a kvs k ku := fun key e1 e2 => by
    subst e1
    have hka : (kvs.all fun p => !isTupD p.1) = true := by cases key <;> exact hk
    have his : (mixKind X.prog X.w).is key ku = true := kV_is (by rw [e2]; exact r2)
    rcases hh with ⟨ns, hr, rn⟩ | ⟨ls, hr, rl⟩
    · obtain ⟨e3, e4⟩ := rpN_tups rn hka
      subst e3 e4
      obtain ⟨hd, dd⟩ := dn_empty_road I hr
      exact .leaf key [] hd rfl his dd trivial
    · obtain ⟨z, hd, vs, rel, dd⟩ := dk_rd I.hok hr
      exact .leaf key vs hd rfl his dd (met_leaf rl rel key)
  cases k with
  | int i => cases rk; exact leaf (.inl i) rfl rfl
  | str i => cases rk; exact leaf (.inr i) rfl rfl
  | tuple ds =>
    simp only [kOk, Bool.and_eq_true, keyable] at hk
    obtain ⟨hk1, hk2⟩ := hk
    cases q : toKey (.tuple ds) with
    | none => rw [q] at hk1; cases hk1
    | some nk =>
      rw [q] at hk1
      simp only [decide_eq_true_eq] at hk1
      have ed := toKey_data _ q
      have hb : ∃ b, ku = .ref b := by
        cases rk
        cases r2
        exact ⟨_, rfl⟩
      obtain ⟨b, rfl⟩ := hb
      have his : (nestedKind X.prog X.w).is s.heap nk b := ⟨rp_key I nk (ed ▸ rk) r2, hk1⟩
      rcases hh with ⟨ns, hr, rn⟩ | ⟨ls, hr, rl⟩
      · obtain ⟨hd, _, xs, x1, dd⟩ := dn_road I hr rn
        exact .tup nk b xs hd ed rfl his dd (ed ▸ met_tup rn x1 nk)
      · obtain ⟨e3, e4⟩ := rpL_leaves rl hk2
        subst e3 e4
        obtain ⟨hd, dd⟩ := dk_empty_road I hr
        exact .tup nk b [] hd ed rfl his dd trivial
  | _ => simp [kOk] at hk
end
end Ld
/-! text LdF -/
set_option Elab.async false
set_option linter.all false
set_option maxRecDepth 100000
set_option maxHeartbeats 4000000
namespace Ld
open PySem PySem.Spec L2
open PyProof.Rows hiding St

def copOf : Cop → CmpOp
  | .eq => .Eq
  | .ne => .NotEq
  | .lt => .Lt
  | .le => .LtE
  | .gt => .Gt
  | .ge => .GtE
  | .isin => .In
  | .notin => .NotIn
  | .is => .Is
  | .isnot => .IsNot
/-- a comparison of two operands that are looked at -/
def rC (K : PySem.W.Frag) (w : World) (f : PyData → PyData → Option Bool) : R2 := fun vx vy H Q => ∃ pa x y z, DvOk .read K w H pa (.d x) vx ∧ DvOk .read K w H pa (.d y) vy ∧ f x y = some z ∧ Q (.bl z) H
theorem mthB {b k z : Bool} (h : (match b with | true => some k | false => none) = some z) : b = true ∧ k = z := by
  cases b with
  | true => exact ⟨rfl, Option.some.inj h⟩
  | false => cases h
theorem notO_some {o : Option Bool} {z : Bool} (h : notO o = some z) : ∃ k, o = some k ∧ z = !k := by
  cases o with
  | none => cases h
  | some k => exact ⟨k, rfl, (Option.some.inj h).symm⟩
section
variable {X : Cx}
theorem rd_non {K : PySem.W.Frag} {w : World} {H : Hp} {pa : Option Addr} {d : PyData} {v : V} (h : DvOk .read K w H pa (.d d) v) : decide (v = .non) = beqD d .none := by
  rcases h with h | ⟨h, _⟩
  · cases h <;> rfl
  · cases d with
    | list ds => obtain ⟨a, vs, rfl, _⟩ := h; rfl
    | dict ds => obtain ⟨a, rfl, _⟩ := h; rfl
    | _ => exact h.elim
theorem in_core {pins : List (Addr × Obj)} {s : Shared} {σ : St} {H : Hp} {vx vy : V} {ux uy : Value} {pa : Option Addr} {x y : PyData} {z : Bool} {Q : Value → Shared → Prop} (hu : X.A.units + 200 < cLine) (neg : Bool) (I : Inv X pins σ H s) (rx : RelV vx ux) (ry : RelV vy uy)
    (dx : DvOk .read X.K X.w H pa (.d x) vx) (dy : DvOk .read X.K X.w H pa (.d y) vy) (e : inD x y = some z) (q : ∀ s', Inv X pins σ H s' → Q (.bool (if neg then !z else z)) s') :
    wpAny (model X.prog X.w) X.A (compareOp (if neg then .NotIn else .In) ux uy) Q X.xe s := by
  cases y <;> try (simp only [inD, reduceCtorEq] at e)
  case list ds =>
    obtain ⟨hb, ez⟩ := mthB e
    simp only [Bool.and_eq_true, decide_eq_true_eq] at hb
    obtain ⟨as, r1⟩ := rd_reads I dx rx
    obtain ⟨bs, r2⟩ := rd_reads I dy ry
    subst ez
    cases neg with
    | false => exact SeqAt.in_list_data r2 r1 hb.1 hb.2.1 (by omega) (q _ I)
    | true => exact SeqAt.notIn_list_data r2 r1 hb.1 hb.2.1 (by omega) (q _ I)
  case tuple ds =>
    obtain ⟨hb, ez⟩ := mthB e
    simp only [Bool.and_eq_true, decide_eq_true_eq] at hb
    obtain ⟨as, r1⟩ := rd_reads I dx rx
    obtain ⟨bs, r2⟩ := rd_reads I dy ry
    subst ez
    cases neg with
    | false => exact SeqAt.in_tuple_data r2 r1 hb.1 hb.2.1 (by omega) (q _ I)
    | true => exact SeqAt.notIn_tuple_data r2 r1 hb.1 hb.2.1 (by omega) (q _ I)
  case dict kvs =>
    obtain ⟨hb, ez⟩ := mthB e
    have fx : Rp X.K X.w H x vx := rd_flat dx (by cases x <;> first | rfl | simp [kOk] at hb)
    obtain ⟨a, rfl, R⟩ := road I dy hb fx ry rx
    cases ry
    rw [dhas_eq] at ez
    have hr : (nestedKind X.prog X.w).room X.A.in1 := by show X.A.units + 1 + 8 < cLine; omega
    cases R with
    | leaf key vs hd e1 his dd m =>
      have em := m.isSome
      rw [ez] at em
      cases neg with
      | false => exact wpAny_in_of his hd dd.mapOf (by rw [em]; exact q _ (I.tok _))
      | true => exact wpAny_notIn_of his hd dd.mapOf (by rw [em]; exact q _ (I.tok _))
    | tup nk b xs hd e1 e2 his dd m =>
      have em := m.isSome
      rw [ez, Option.isSome_map] at em
      subst e2
      cases neg with
      | false => exact wpAny_in_heap hr his hd dd (by rw [em]; exact q _ (I.tok _))
      | true => exact wpAny_notIn_heap hr his hd dd (by rw [em]; exact q _ (I.tok _))
theorem op_cmpD (hu : X.A.units + 200 < cLine) (o : Cop) : OpR X (compareOp (copOf o)) (rC X.K X.w (cmpD o)) := by
  intro pins s σ H vx vy ux uy Q I rx ry h
  obtain ⟨pa, x, y, z, dx, dy, e, q⟩ := h
  have fin : ∀ {k : Bool} {s' : Shared}, k = z → Inv X pins σ H s' → EP X pins σ Q (.bool k) s' := fun {k s'} ek I' => ⟨.bl z, H, I', by rw [ek]; rfl, q⟩
  cases o with
  | eq =>
    obtain ⟨as, r1⟩ := rd_reads I dx rx
    obtain ⟨bs, r2⟩ := rd_reads I dy ry
    obtain ⟨hb, ez⟩ := mthB (show (match x.plain && (y.plain && (decide (x.depth ≤ 60) || decide (y.depth ≤ 60))) with | true => some (PyData.eqv x y) | false => none) = some z from e)
    simp only [Bool.and_eq_true, Bool.or_eq_true, decide_eq_true_eq] at hb
    exact SeqAt.eq_plain r1 r2 hb.1 hb.2.1 (by omega) (fin ez I)
  | ne =>
    obtain ⟨k, e1, e2⟩ := notO_some (show notO (eqD x y) = some z from e)
    obtain ⟨as, r1⟩ := rd_reads I dx rx
    obtain ⟨bs, r2⟩ := rd_reads I dy ry
    obtain ⟨hb, ez⟩ := mthB (show (match x.plain && (y.plain && (decide (x.depth ≤ 60) || decide (y.depth ≤ 60))) with | true => some (PyData.eqv x y) | false => none) = some k from e1)
    simp only [Bool.and_eq_true, Bool.or_eq_true, decide_eq_true_eq] at hb
    exact SeqAt.ne_plain r1 r2 hb.1 hb.2.1 (by omega) (fin (by rw [ez, e2]) I)
  | lt =>
    obtain ⟨as, r1⟩ := rd_reads I dx rx
    obtain ⟨bs, r2⟩ := rd_reads I dy ry
    obtain ⟨hb, ez⟩ := mthB (show (match PySem.W.alike x y && (!(beqD x .none) && decide (x.depth ≤ 60)) with | true => some _ | false => none) = some z from e)
    simp only [Bool.and_eq_true, Bool.not_eq_true', decide_eq_true_eq] at hb
    exact PySem.W.lt_data r1 r2 hb.1 (fun e => by rw [e] at hb; simp [beqD] at hb) (by omega) (fin ez I)
  | le =>
    obtain ⟨as, r1⟩ := rd_reads I dx rx
    obtain ⟨bs, r2⟩ := rd_reads I dy ry
    obtain ⟨hb, ez⟩ := mthB (show (match PySem.W.alike x y && (!(beqD x .none) && decide (x.depth ≤ 60)) with | true => some _ | false => none) = some z from e)
    simp only [Bool.and_eq_true, Bool.not_eq_true', decide_eq_true_eq] at hb
    exact PySem.W.le_data r1 r2 hb.1 (fun e => by rw [e] at hb; simp [beqD] at hb) (by omega) (fin ez I)
  | gt =>
    obtain ⟨as, r1⟩ := rd_reads I dx rx
    obtain ⟨bs, r2⟩ := rd_reads I dy ry
    obtain ⟨hb, ez⟩ := mthB (show (match PySem.W.alike x y && (!(beqD x .none) && decide (x.depth ≤ 60)) with | true => some _ | false => none) = some z from e)
    simp only [Bool.and_eq_true, Bool.not_eq_true', decide_eq_true_eq] at hb
    exact PySem.W.gt_data r1 r2 hb.1 (fun e => by rw [e] at hb; simp [beqD] at hb) (by omega) (fin ez I)
  | ge =>
    obtain ⟨as, r1⟩ := rd_reads I dx rx
    obtain ⟨bs, r2⟩ := rd_reads I dy ry
    obtain ⟨hb, ez⟩ := mthB (show (match PySem.W.alike x y && (!(beqD x .none) && decide (x.depth ≤ 60)) with | true => some _ | false => none) = some z from e)
    simp only [Bool.and_eq_true, Bool.not_eq_true', decide_eq_true_eq] at hb
    exact PySem.W.ge_data r1 r2 hb.1 (fun e => by rw [e] at hb; simp [beqD] at hb) (by omega) (fin ez I)
  | isin => exact in_core hu false I rx ry dx dy e fun s' I' => fin rfl I'
  | notin =>
    obtain ⟨k, e1, e2⟩ := notO_some (show notO (inD x y) = some z from e)
    exact in_core hu true I rx ry dx dy e1 fun s' I' => fin (by rw [e2]; rfl) I'
  | is =>
    cases y <;> simp only [cmpD, reduceCtorEq, Option.some.injEq] at e
    refine op_isN pins s σ H vx vy ux uy Q I rx ry ⟨rd_none dy, ?_⟩
    rw [rd_non dx, e]
    exact q
  | isnot =>
    cases y <;> simp only [cmpD, reduceCtorEq, Option.some.injEq] at e
    refine op_notN pins s σ H vx vy ux uy Q I rx ry ⟨rd_none dy, ?_⟩
    rw [rd_non dx, e]
    exact q
/-! ### subscripts -/
/-- a[b] -/
theorem dget_some {K : PySem.W.Frag} {w : World} {H : Hp} {o : Option PyData} {q : Option Value} {d : PyData} (m : Met K w H o q) (e : o = some d) : ∃ v u, q = some u ∧ Rp K w H d v ∧ RelV v u := by
  subst e
  cases q with
  | none => exact m.elim
  | some u => obtain ⟨v, h1, h2⟩ := m; exact ⟨v, u, rfl, h1, h2⟩
end
end Ld
/-! text LdG -/
set_option Elab.async false
set_option linter.all false
set_option maxRecDepth 100000
set_option maxHeartbeats 4000000
namespace Ld
open PySem PySem.Spec L2
open PyProof.Rows hiding St
variable [Fs]

section
variable {K : PySem.W.Frag} {w : World} {ex : EX} {W : WX} {σ : St} {H : Hp} {pa : Option Addr} {r r1 r2 : Md} {Q : VK} {HB : Hp} {pb : Option Addr} {δ : Env'} {g : G}
/-- the operand of a node -/
theorem tE1 {a : E} {f : DV → M DV} (S : StOk K w HB pb σ H pa δ g) (p : post K w ex W σ H pa r (bnd (ev r1.b a δ) f g) Q) :
    tE K w ex W HB pb r1 a σ H fun v H1 => ∃ x g1 p1, StOk K w HB pb σ H1 p1 δ g1 ∧ Stp K w H pa H1 p1 g1 ∧ DvOk r1 K w H1 p1 x v ∧ post K w ex W σ H1 p1 r (f x g1) Q :=
  ⟨δ, g, pa, S, post_mono (post_bnd p) fun v H1 ⟨x, g1, p1, st, dv, p1'⟩ => ⟨x, g1, p1, S.step st, st, dv, p1'⟩⟩
/-- two operands -/
theorem tE2 {a b : E} {f : DV → DV → M DV} (S : StOk K w HB pb σ H pa δ g) (p : post K w ex W σ H pa r (bnd (ev r1.b a δ) (fun x => bnd (ev r2.b b δ) fun y => f x y) g) Q) :
    tE K w ex W HB pb r1 a σ H fun v H1 => tE K w ex W HB pb r2 b σ H1 fun u H2 => ∃ x y g2 p2, StOk K w HB pb σ H2 p2 δ g2 ∧ DvOk r1 K w H2 p2 x v ∧ DvOk r2 K w H2 p2 y u ∧ post K w ex W σ H2 p2 r (f x y g2) Q := by
  obtain ⟨δ', g', pa', S', q⟩ := tE1 S p
  refine ⟨δ', g', pa', S', post_mono q fun v H1 ⟨x, g1, p1, S1, st, dv, q1⟩ => ?_⟩
  obtain ⟨δ2, g2, pa2, S2, q2⟩ := tE1 S1 q1
  exact ⟨δ2, g2, pa2, S2, post_mono q2 fun u H2 ⟨y, g3, p3, S3, st3, dv3, q3⟩ => ⟨x, y, g3, p3, S3, dv.step st3, dv3, q3⟩⟩
theorem post_dat2 {x y : DV} {f : PyData → PyData → M DV} (h : post K w ex W σ H pa r (bnd (dat x) (fun x => bnd (dat y) fun y => f x y) g) Q) : ∃ d e, x = .d d ∧ y = .d e ∧ post K w ex W σ H pa r (f d e g) Q := by
  obtain ⟨d, e1, h⟩ := post_dat h
  obtain ⟨e, e2, h⟩ := post_dat h
  exact ⟨d, e, e1, e2, h⟩
theorem Rp.rd {d : PyData} {v : V} (h : Rp K w H d v) : DvOk .read K w H pa (.d d) v := .inl h
/-- a value that is there, handed on (never as one's own) -/
theorem ok_rp {d : PyData} {v : V} {H' : Hp} {pa' : Option Addr} (h : okP K w H pa r (.d d) g Q) (hr : r ≠ .own) (st : Stp K w H pa H' pa' g) (rp : Rp K w H' d v) : Q v H' := by
  refine h v H' pa' st ?_ (fun e => absurd e hr)
  cases r with
  | pure => exact rp
  | read => exact .inl rp
  | own => exact absurd rfl hr
theorem ok_here {d : PyData} {v : V} (h : okP K w H pa r (.d d) g Q) (hr : r ≠ .own) (p : PenOk K w H pa g) (rp : Rp K w H d v) : Q v H := ok_rp h hr (Stp.refl p) rp
end
section
variable {X : Cx} {r : Md}
/-! ### subscripts -/
def rIx' (K : PySem.W.Frag) (w : World) (r : Md) : R2 := fun vx vy H Q => ∃ pa g x y z, PenOk K w H pa g ∧ DvOk .read K w H pa (.d x) vx ∧ Rp K w H y vy ∧ subD x y = some z ∧ okP K w H pa r (.d z) g Q
theorem dget_kOk {kvs : List (PyData × PyData)} {k z : PyData} (e : subD (.dict kvs) k = some z) : kOk kvs k = true ∧ dget kvs k = some z := by
  have e : (match kOk kvs k with
    | true => dget kvs k
    | false => none) = some z := e
  cases q : kOk kvs k with
  | false => rw [q] at e; cases e
  | true => rw [q] at e; exact ⟨rfl, e⟩
theorem atI_rp {K : PySem.W.Frag} {w : World} {H : Hp} {ds : List PyData} {vs : List V} {i : Int} {z : PyData} (r : RpA K w H ds vs) (h : atD ds i = some z) : ∃ v, atI vs i = some v ∧ Rp K w H z v := by
  unfold atD atI at h
  unfold atI
  rw [← r.length]
  cases q : ixN ds.length i with
  | none => rw [q] at h; cases h
  | some j =>
    rw [q] at h
    exact r.get h
theorem ix_data (hu : X.A.units + 200 < cLine) (hr : r ≠ .own) : IxR X (rIx' X.K X.w r) := by
  intro value slice pins s σ H vx vy ux uy Q I rx ry h hs
  obtain ⟨pa, g, x, y, z, pen, dx, dy, e, q⟩ := h
  cases x <;> try (simp only [subD, reduceCtorEq] at e)
  case tuple xs =>
    cases y <;> try (simp only [subD, reduceCtorEq] at e)
    rename_i i
    obtain ⟨a, vs, rfl, sa, ra⟩ := rd_tup dx
    obtain ⟨v, e1, e2⟩ := atI_rp ra e
    cases dy
    exact ix_tup value slice pins s σ H _ _ _ _ Q I rx ry ⟨a, vs, i, v, rfl, rfl, sa, e1, ok_here q hr pen e2⟩ hs
  case list xs =>
    cases y <;> try (simp only [subD, reduceCtorEq] at e)
    rename_i i
    obtain ⟨a, vs, rfl, sa, ra, _⟩ := rd_lst dx
    obtain ⟨v, e1, e2⟩ := atI_rp ra e
    cases dy
    exact ix_list value slice pins s σ H _ _ _ _ Q I rx ry ⟨a, vs, i, v, rfl, rfl, sa, e1, ok_here q hr pen e2⟩ hs
  case dict kvs =>
    obtain ⟨hk, hg⟩ := dget_kOk (by unfold subD; exact e)
    obtain ⟨a, rfl, R⟩ := road I dx hk dy rx ry
    cases rx
    have hroom : (nestedKind X.prog X.w).room X.A.in1 := by show X.A.units + 1 + 8 < cLine; omega
    have core : s.TypeIs (.ref a) "dict" ∧ wpAny (model X.prog X.w) X.A (getItem (.ref a) uy) (EP X pins σ Q) X.xe s := by
      cases R with
      | leaf key vs hd e1 his dd m =>
        obtain ⟨v, u, e3, e4, e5⟩ := dget_some m hg
        exact ⟨dd.typeIs, wpAny_getItem_of his dd.mapOf e3 ⟨v, H, I.tok _, e5, ok_here q hr pen e4⟩⟩
      | tup nk b xs hd e1 e2 his dd m =>
        obtain ⟨v, u, e3, e4, e5⟩ := dget_some m hg
        subst e2
        cases e6 : atKey xs nk with
        | none => rw [e6] at e3; cases e3
        | some p =>
          rw [e6] at e3
          have e7 : p.2 = u := Option.some.inj e3
          subst e7
          exact ⟨dd.typeIs, wpAny_getItem_heap hroom his dd e6 ⟨v, H, I.tok _, e5, ok_here q hr pen e4⟩⟩
    exact tail_any core.1 PySem.F.slot_dict_getitem.lookup core.2 hs
end
end Ld
/-! text LdH -/
set_option Elab.async false
set_option linter.all false
set_option maxRecDepth 100000
set_option maxHeartbeats 4000000
namespace Ld
open PySem PySem.Spec L2
open PyProof.Rows hiding St
variable [Fs]

/-- what the rules ask of a context -/
structure Rdy (X : Cx) : Prop where
  hu : X.A.units + 200 < cLine
  calm : X.calm = true
  nd : X.N.Nodup
  gd : X.A.guards = some []
  sys : ∃ o, X.base.get? sysModules = some o ∧ o.cls = .type "dict"
/-- no star, no slice, no set display at the head -/
def nice : Expr → Bool
  | .Starred .. => false
  | .Slice .. => false
  | .Set .. => false
  | _ => true
theorem nice_star {x : Expr} (h : nice x = true) (es : List Expr) (env : Env) : starEach (x :: es) env = (false, eval x env) :: starEach es env := by
  cases x <;> first | rfl | cases h
theorem nice_ix {x : Expr} (h : nice x = true) : PlainIx x := by
  intro o i
  cases x <;> first | rfl | cases h
theorem nice_marks {x : Expr} (h : nice x = true) (op : CmpOp) : behindInMarks op x = false := by
  cases x <;> first | rfl | cases h
theorem nice_fold {x : Expr} (h : nice x = true) (env : Env) (v : Value) : foldedSetIterable x env v = pure v := by
  cases x <;> first | rfl | cases h
theorem nice_last {x y : Expr} (h : nice y = true) (op op' : CmpOp) : lastMarks [op, op'] [x, y] = false := nice_marks h op'
/-- the test of this expression is its value's truth -/
def tstv : Expr → Bool
  | .UnaryOp .Not _ _ => false
  | .BoolOp .. => false
  | .IfExp .. => false
  | .Compare .. => false
  | _ => true
theorem tstv_eq {x : Expr} (h : tstv x = true) (env : Env) (whole : Sem Value) : isTrue x env whole = (do let v ← whole; standAt x.pos; holding [v] (truthy v)) := by
  cases x <;> try rfl
  case UnaryOp op a p => cases op <;> first | rfl | cases h
  all_goals cases h

abbrev TX (X : Cx) (ex : EX) (W : WX) (HB : Hp) (pb : Option Addr) (r : Md) (e : E) : TE := tE X.K X.w ex W HB pb r e
/-- a test -/
def tT (K : PySem.W.Frag) (w : World) (ex : EX) (W : WX) (HB : Hp) (pb : Option Addr) (e : E) : TT := fun σ H Q => ∃ δ g pa, StOk K w HB pb σ H pa δ g ∧ postG K w ex W σ H pa (tst (ev true e δ) g) fun b _ H1 _ => Q b H1
section
variable {X : Cx} {ex : EX} {W : WX} {HB : Hp} {pb : Option Addr} {r : Md}
theorem tru_data : TruR X (fun v H Q => ∃ pa x k, DvOk .read X.K X.w H pa (.d x) v ∧ truthO x = some k ∧ Q k H) := by
  intro pins s σ H v u Q I rv h
  obtain ⟨pa, x, k, dx, e, q⟩ := h
  have go : ∀ k', TruV X.K v H k' → k' = k → wpAny (model X.prog X.w) X.A (truthy u) (TP X pins σ Q) X.xe s := fun k' h1 h2 => tru_ok pins s σ H v u Q I rv ⟨k', h1, h2 ▸ q⟩
  cases x with
  | none => cases rd_none dx; exact go false rfl (Option.some.inj e)
  | bool b => cases rd_bool dx; exact go b rfl (Option.some.inj e)
  | int i => cases rd_int dx; exact go _ rfl (Option.some.inj e)
  | str y =>
    cases rd_str dx
    obtain ⟨h1, h2⟩ := mthB (show (match decide (y.length ≤ maxLen) with | true => some (y.length != 0) | false => none) = some k from e)
    refine go _ ⟨Nat.le_trans (of_decide_eq_true h1) maxLen_le, rfl⟩ ?_
    rw [← h2]
    cases y.length <;> simp <;> omega
  | tuple ds =>
    obtain ⟨a, vs, rfl, sa, ra⟩ := rd_tup dx
    refine go _ (.inr (.inl ⟨vs, sa, rfl⟩)) ?_
    have : (!ds.isEmpty) = k := Option.some.inj e
    rw [← this]
    cases ra <;> rfl
  | list ds =>
    obtain ⟨a, vs, rfl, sa, ra, _⟩ := rd_lst dx
    refine go _ (.inl ⟨vs, sa, rfl⟩) ?_
    have : (!ds.isEmpty) = k := Option.some.inj e
    rw [← this]
    cases ra <;> rfl
  | dict kvs =>
    obtain ⟨h1, h2⟩ := mthB (show (match kvs.all fun p => !isTupD p.1 with | true => some (!kvs.isEmpty) | false => none) = some k from e)
    obtain ⟨a, rfl, hh⟩ := rd_dct dx
    cases rv
    rcases hh with ⟨ns, hr, rn⟩ | ⟨ls, hr, rl⟩
    · obtain ⟨e3, e4⟩ := rpN_tups rn h1
      subst e3 e4
      obtain ⟨hd, dd⟩ := dn_empty_road I hr
      exact wpAny_truthy_dict hd dd (by decide) ⟨H, I.tok _, by rw [← h2] at q; exact q⟩
    · obtain ⟨z, hd, vs, rel, dd⟩ := dk_rd I.hok hr
      have hl : ls.length = vs.length := Paired.length rel
      refine wpAny_truthy_dict hd dd (by rw [← hl]; rw [sizeLine_eq] at z; omega) ⟨H, I.tok _, ?_⟩
      have ee : (!vs.isEmpty) = k := by
        rw [← h2]
        cases rl <;> cases rel <;> rfl
      rw [ee]
      exact q
theorem pt_plain {e : E} {x : Expr} (h : PE X x (TX X ex W HB pb .read e)) (ht : tstv x = true) : PT X x (tT X.K X.w ex W HB pb e) := by
  refine ⟨fun pins s σ H Q I hw => ?_⟩
  obtain ⟨δ, g, pa, S, p⟩ := hw
  refine isTrue_plain (thn (h.run pins s σ H (fun v H1 => ∃ pa x k, DvOk .read X.K X.w H1 pa (.d x) v ∧ truthO x = some k ∧ Q k H1) I ⟨δ, g, pa, S, ?_⟩) fun v s1 ⟨y, H1, I1, r1, q1⟩ => tru_data pins s1 σ H1 y v Q I1 r1 q1) (tstv_eq ht _ _)
  show post X.K X.w ex W σ H pa .read (ev true e δ g) _
  unfold tst bnd at p
  cases q : ev true e δ g with
  | no => rw [q] at p; exact p.elim
  | exc c fs g' => rw [q] at p; exact p
  | ok y g' =>
    rw [q] at p
    cases y with
    | pen => exact p.elim
    | d y =>
      intro v H' pa' st dv _
      refine ⟨pa', y, ?_⟩
      simp only [dat, rt] at p
      cases z : truthO y with
      | none => rw [z] at p; exact p.elim
      | some k => rw [z] at p; exact ⟨k, dv, rfl, p H' pa' st⟩
/-! ### operators -/
theorem n_bin {o : Bop} {a b : E} {x y : Expr} {pos : Pos} (ha : PE X x (TX X ex W HB pb .read a)) (hb : PE X y (TX X ex W HB pb .read b)) : PE X (.BinOp x (opOf o) y pos) (TX X ex W HB pb r (.bin o a b)) := by
  refine pe_mono (pe_op (op_bin (r := r) o) ha hb) fun σ H Q h => ?_
  obtain ⟨δ, g, pa, S, p⟩ := h
  simp only [ev] at p
  obtain ⟨δ1, g1, p1, S1, p⟩ := tE2 (r1 := .read) (r2 := .read) S p
  refine ⟨δ1, g1, p1, S1, post_mono p fun v H1 ⟨δ2, g2, p2, S2, p⟩ => ⟨δ2, g2, p2, S2, post_mono p fun u H2 ⟨x, y, g3, p3, S3, dx, dy, p⟩ => ?_⟩⟩
  obtain ⟨d, e, rfl, rfl, p⟩ := post_dat2 p
  obtain ⟨z, hz, p⟩ := post_ret p
  exact ⟨p3, g3, d, e, z, S3.pen, dx, dy, hz, p⟩
theorem n_cmp (R : Rdy X) {o : Cop} {a b : E} {x y : Expr} {pos : Pos} (ha : PE X x (TX X ex W HB pb .read a)) (hb : PE X y (TX X ex W HB pb .read b)) (hy : nice y = true) : PE X (.Compare x [copOf o] [y] pos) (TX X ex W HB pb r (.cmp o a b)) := by
  refine pe_mono (pe_cmpR (op_cmpD R.hu o) ha hb (nice_marks hy _)) fun σ H Q h => ?_
  obtain ⟨δ, g, pa, S, p⟩ := h
  simp only [ev] at p
  obtain ⟨δ1, g1, p1, S1, p⟩ := tE2 (r1 := .read) (r2 := .read) S p
  refine ⟨δ1, g1, p1, S1, post_mono p fun v H1 ⟨δ2, g2, p2, S2, p⟩ => ⟨δ2, g2, p2, S2, post_mono p fun u H2 ⟨x, y, g3, p3, S3, dx, dy, p⟩ => ?_⟩⟩
  obtain ⟨d, e, rfl, rfl, p⟩ := post_dat2 p
  obtain ⟨z, hz, p⟩ := post_retB p
  exact ⟨p3, d, e, z, dx, dy, hz, okP_here (d := .bool z) p S3.pen (.bool z) rfl⟩
/-- a test that is a bool's -/
theorem postG_tst {e : E} {δ : Env'} {g : G} {σ : St} {H : Hp} {pa : Option Addr} {Q : Bool → Hp → Prop} (p : postG X.K X.w ex W σ H pa (tst (ev true e δ) g) fun b _ H1 _ => Q b H1)
    (hb : ∀ x g', ev true e δ g = .ok x g' → ∃ b, x = .d (.bool b)) : post X.K X.w ex W σ H pa .read (ev true e δ g) fun v H1 => ∃ k, v = .bl k ∧ Q k H1 := by
  unfold tst bnd at p
  cases q : ev true e δ g with
  | no => rw [q] at p; exact p.elim
  | exc c fs g' => rw [q] at p; exact p
  | ok y g' =>
    obtain ⟨b, rfl⟩ := hb y g' q
    rw [q] at p
    intro v H' pa' st dv _
    exact ⟨b, rd_bool dv, p H' pa' st⟩
theorem bnd_ok {α β : Type} {m : M α} {f : α → M β} {g g' : G} {y : β} (h : bnd m f g = .ok y g') : ∃ x g1, m g = .ok x g1 ∧ f x g1 = .ok y g' := by
  unfold bnd at h
  cases q : m g with
  | ok x g1 => rw [q] at h; exact ⟨x, g1, rfl, h⟩
  | exc c fs g1 => rw [q] at h; cases h
  | no => rw [q] at h; cases h
theorem ofO_ok {α : Type} {o : Option α} {g g' : G} {y : α} (h : ofO o g = .ok y g') : o = some y ∧ g = g' := by
  cases o with
  | none => cases h
  | some x =>
    have h : Res.ok x g = Res.ok y g' := h
    cases h
    exact ⟨rfl, rfl⟩
theorem retB_ok {o : Option Bool} {g g' : G} {y : DV} (h : retB o g = .ok y g') : ∃ b, y = .d (.bool b) := by
  cases o with
  | none => cases h
  | some x =>
    have h : Res.ok (DV.d (.bool x)) g = Res.ok y g' := h
    cases h
    exact ⟨x, rfl⟩
theorem nt_cmp (R : Rdy X) {o : Cop} {a b : E} {x y : Expr} {pos : Pos} (ha : PE X x (TX X ex W HB pb .read a)) (hb : PE X y (TX X ex W HB pb .read b)) (hy : nice y = true) : PT X (.Compare x [copOf o] [y] pos) (tT X.K X.w ex W HB pb (.cmp o a b)) := by
  refine pt_mono (pt_cmpR (op_cmpD R.hu o) ha hb (nice_marks hy _)) fun σ H Q h => ?_
  obtain ⟨δ, g, pa, S, p⟩ := h
  have p := postG_tst p fun x g' hx => by
    simp only [ev] at hx
    obtain ⟨_, _, _, hx⟩ := bnd_ok hx
    obtain ⟨_, _, _, hx⟩ := bnd_ok hx
    obtain ⟨_, _, _, hx⟩ := bnd_ok hx
    obtain ⟨_, _, _, hx⟩ := bnd_ok hx
    exact retB_ok hx
  simp only [ev] at p
  obtain ⟨δ1, g1, p1, S1, p⟩ := tE2 (r1 := .read) (r2 := .read) S p
  refine ⟨δ1, g1, p1, S1, post_mono p fun v H1 ⟨δ2, g2, p2, S2, p⟩ => ⟨δ2, g2, p2, S2, post_mono p fun u H2 ⟨x, y, g3, p3, S3, dx, dy, p⟩ => ?_⟩⟩
  obtain ⟨d, e, rfl, rfl, p⟩ := post_dat2 p
  obtain ⟨z, hz, p⟩ := post_retB p
  exact ⟨p3, d, e, z, dx, dy, hz, okP_here (d := .bool z) p S3.pen (.bool z) rfl⟩
theorem n_ix (R : Rdy X) (hr : r ≠ .own) {a b : E} {x y : Expr} {pos : Pos} (ha : PE X x (TX X ex W HB pb .read a)) (hb : PE X y (TX X ex W HB pb .pure b)) (hy : nice y = true) : PE X (.Subscript x y pos) (TX X ex W HB pb r (.sub a b)) := by
  refine pe_mono (pe_ix (ix_data R.hu hr) ha hb (nice_ix hy)) fun σ H Q h => ?_
  obtain ⟨δ, g, pa, S, p⟩ := h
  simp only [ev] at p
  obtain ⟨δ1, g1, p1, S1, p⟩ := tE2 (r1 := .read) (r2 := .pure) S p
  refine ⟨δ1, g1, p1, S1, post_mono p fun v H1 ⟨δ2, g2, p2, S2, p⟩ => ⟨δ2, g2, p2, S2, post_mono p fun u H2 ⟨x, y, g3, p3, S3, dx, dy, p⟩ => ?_⟩⟩
  obtain ⟨d, e, rfl, rfl, p⟩ := post_dat2 p
  obtain ⟨z, hz, p⟩ := post_ret p
  exact ⟨p3, g3, d, e, z, S3.pen, dx, dy, hz, p⟩
theorem intO_ok {x : DV} {f : Option Int → M DV} {σ : St} {H : Hp} {pa : Option Addr} {g : G} {Q : VK} (p : post X.K X.w ex W σ H pa r (bnd (intO x) f g) Q) : ∃ i, x = .d (.int i) ∧ post X.K X.w ex W σ H pa r (f (some i) g) Q := by
  cases x with
  | pen => exact p.elim
  | d d => cases d <;> first | exact ⟨_, rfl, p⟩ | exact p.elim
theorem n_neg {a : E} {x : Expr} {pos : Pos} (ha : PE X x (TX X ex W HB pb .pure a)) : PE X (.UnaryOp .USub x pos) (TX X ex W HB pb r (.neg a)) := by
  refine pe_mono (pe_un un_neg ha) fun σ H Q h => ?_
  obtain ⟨δ, g, pa, S, p⟩ := h
  simp only [ev] at p
  obtain ⟨δ1, g1, p1, S1, p⟩ := tE1 (r1 := .pure) S p
  refine ⟨δ1, g1, p1, S1, post_mono p fun v H1 ⟨x, g3, p3, S3, _, dx, p⟩ => ?_⟩
  obtain ⟨i, rfl, p⟩ := intO_ok p
  have e : v = .int i := by cases (show Rp X.K X.w H1 (.int i) v from dx); rfl
  exact ⟨i, e, okP_here (d := .int (-i)) p S3.pen (.int _) rfl⟩
/-! ### tests -/
/-- the way of a test -/
theorem tT1 {β : Type} {a : E} {f : Bool → M DV} {δ : Env'} {g : G} {σ : St} {H : Hp} {pa : Option Addr} {Q : VK} (S : StOk X.K X.w HB pb σ H pa δ g) (p : post X.K X.w ex W σ H pa r (bnd (tst (ev true a δ)) f g) Q) :
    tT X.K X.w ex W HB pb a σ H fun k H1 => ∃ g1 p1, StOk X.K X.w HB pb σ H1 p1 δ g1 ∧ Stp X.K X.w H pa H1 p1 g1 ∧ post X.K X.w ex W σ H1 p1 r (f k g1) Q := by
  refine ⟨δ, g, pa, S, ?_⟩
  have p := post_bndG p
  revert p
  cases tst (ev true a δ) g with
  | ok k g' => exact fun p H' pa' st => ⟨g', pa', S.step st, st, p H' pa' st⟩
  | exc c fs g' => exact fun p => p
  | no => exact fun p => p
theorem un_notD : UnR X (unaryOp .Not) (fun v H Q => ∃ pa x k, DvOk .read X.K X.w H pa (.d x) v ∧ truthO x = some k ∧ Q (.bl (!k)) H) := by
  intro pins s σ H v u Q I rv h
  obtain ⟨pa, x, k, dx, e, q⟩ := h
  exact not_of (thn (tru_data pins s σ H v u (fun b H1 => Q (.bl (!b)) H1) I rv ⟨pa, x, k, dx, e, q⟩) fun b s1 ⟨H1, I1, q1⟩ => ⟨.bl (!b), H1, I1, rfl, q1⟩)
theorem n_not {a : E} {x : Expr} {pos : Pos} (ha : PE X x (TX X ex W HB pb .read a)) : PE X (.UnaryOp .Not x pos) (TX X ex W HB pb r (.not a)) := by
  refine pe_mono (pe_un un_notD ha) fun σ H Q h => ?_
  obtain ⟨δ, g, pa, S, p⟩ := h
  simp only [ev] at p
  have p := post_bndG p
  unfold tst bnd at p
  refine ⟨δ, g, pa, S, ?_⟩
  show post X.K X.w ex W σ H pa .read (ev true a δ g) _
  cases q : ev true a δ g with
  | no => rw [q] at p; exact p.elim
  | exc c fs g' => rw [q] at p; exact p
  | ok y g' =>
    rw [q] at p
    cases y with
    | pen => exact p.elim
    | d y =>
      intro v H' pa' st dv _
      refine ⟨pa', y, ?_⟩
      simp only [dat, rt] at p
      cases z : truthO y with
      | none => rw [z] at p; exact p.elim
      | some k => rw [z] at p; exact ⟨k, dv, rfl, okP_here (d := .bool (!k)) (p H' pa' st) st.pen (.bool _) rfl⟩
theorem postG_st {α : Type} {x : Res α} {σ : St} {H : Hp} {pa : Option Addr} {P : α → G → Hp → Option Addr → Prop} (p : postG X.K X.w ex W σ H pa x P) : postG X.K X.w ex W σ H pa x fun a g H' p' => Stp X.K X.w H pa H' p' g ∧ P a g H' p' := by
  cases x with
  | ok x g' => exact fun H' pa' s2 => ⟨s2, p H' pa' s2⟩
  | exc c fs g' => exact p
  | no => exact p
theorem tst_map {α : Type} (m : M α) (f : α → Bool) : tst (bnd m fun b => rt (.d (.bool (f b)))) = bnd m fun b => rt (f b) := by
  funext g
  unfold tst bnd
  cases m g <;> rfl
theorem postG_map {α β : Type} {m : M α} {f : α → β} {σ : St} {H : Hp} {pa : Option Addr} {g : G} {P : β → G → Hp → Option Addr → Prop} (p : postG X.K X.w ex W σ H pa (bnd m (fun b => rt (f b)) g) P) : postG X.K X.w ex W σ H pa (m g) fun b g1 H1 p1 => P (f b) g1 H1 p1 := by
  unfold bnd at p
  cases q : m g with
  | ok x g' => rw [q] at p; exact p
  | exc c fs g' => rw [q] at p; exact p
  | no => rw [q] at p; exact p
theorem nt_not {a : E} {x : Expr} {pos : Pos} (ha : PT X x (tT X.K X.w ex W HB pb a)) : PT X (.UnaryOp .Not x pos) (tT X.K X.w ex W HB pb (.not a)) := by
  refine pt_mono (pt_not ha) fun σ H Q h => ?_
  obtain ⟨δ, g, pa, S, p⟩ := h
  refine ⟨δ, g, pa, S, ?_⟩
  simp only [ev] at p
  rw [tst_map] at p
  exact postG_map p
/-! ### and, or -/
/-- the tail of a list of operands -/
def mkB (op : BoolOp) (ys : List Expr) (pos : Pos) : Expr := match ys with
  | [y] => y
  | ys => .BoolOp op ys pos
theorem mkB_pe {op : BoolOp} {y : Expr} {ys : List Expr} {pos : Pos} {t : TE} (h : PE X (mkB op (y :: ys) pos) t) : PE X (.BoolOp op (y :: ys) pos) t := by
  cases ys with
  | nil => exact pe_one h
  | cons z zs => exact h
theorem n_and {a b : E} {x y : Expr} {ys : List Expr} {pos : Pos} (ha : PE X x (TX X ex W HB pb r a)) (hb : PE X (mkB .And (y :: ys) pos) (TX X ex W HB pb r b)) (hm : r ≠ .own) : PE X (.BoolOp .And (x :: y :: ys) pos) (TX X ex W HB pb r (.and a b)) := by
  have hb := mkB_pe hb
  refine ⟨fun pins s σ H Q I h => ?_⟩
  obtain ⟨δ, g, pa, S, p⟩ := h
  simp only [ev] at p
  refine BoolOp_and (thn (ha.run pins s σ H _ I (tE1 (r1 := r) S p)) fun v s1 ⟨z, H1, I1, r1, z', g1, p1, S1, st, dz, p⟩ => ?_)
  obtain ⟨d, rfl, p⟩ := post_dat p
  obtain ⟨k, hk, p⟩ := post_ofO p
  have dr : DvOk .read X.K X.w H1 p1 (.d d) z := by
    cases r with
    | pure => exact .inl dz
    | read => exact dz
    | own => exact absurd rfl hm
  refine thn (tru_data pins s1 σ H1 z v (fun b H' => b = k ∧ H' = H1) I1 r1 ⟨p1, d, k, dr, hk, rfl, rfl⟩) fun b s2 ⟨H2, I2, e1, e2⟩ => ?_
  subst e1 e2
  cases b with
  | true => exact hb.run pins s2 σ H2 Q I2 ⟨δ, g1, p1, S1, p⟩
  | false => exact ⟨z, H2, I2, r1, p z H2 p1 (Stp.refl S1.pen) dz (fun e => absurd e hm)⟩
theorem n_or {a b : E} {x y : Expr} {ys : List Expr} {pos : Pos} (ha : PE X x (TX X ex W HB pb r a)) (hb : PE X (mkB .Or (y :: ys) pos) (TX X ex W HB pb r b)) (hm : r ≠ .own) : PE X (.BoolOp .Or (x :: y :: ys) pos) (TX X ex W HB pb r (.or a b)) := by
  have hb := mkB_pe hb
  refine ⟨fun pins s σ H Q I h => ?_⟩
  obtain ⟨δ, g, pa, S, p⟩ := h
  simp only [ev] at p
  refine BoolOp_or (thn (ha.run pins s σ H _ I (tE1 (r1 := r) S p)) fun v s1 ⟨z, H1, I1, r1, z', g1, p1, S1, st, dz, p⟩ => ?_)
  obtain ⟨d, rfl, p⟩ := post_dat p
  obtain ⟨k, hk, p⟩ := post_ofO p
  have dr : DvOk .read X.K X.w H1 p1 (.d d) z := by
    cases r with
    | pure => exact .inl dz
    | read => exact dz
    | own => exact absurd rfl hm
  refine thn (tru_data pins s1 σ H1 z v (fun b H' => b = k ∧ H' = H1) I1 r1 ⟨p1, d, k, dr, hk, rfl, rfl⟩) fun b s2 ⟨H2, I2, e1, e2⟩ => ?_
  subst e1 e2
  cases b with
  | false => exact hb.run pins s2 σ H2 Q I2 ⟨δ, g1, p1, S1, p⟩
  | true => exact ⟨z, H2, I2, r1, p z H2 p1 (Stp.refl S1.pen) dz (fun e => absurd e hm)⟩
/-- as tests -/
def tBo (op : BoolOp) (k : Bool) : Bool := match op with
  | .And => !k
  | .Or => k
theorem mkB_pw {op : BoolOp} {y : Expr} {ys : List Expr} {pos : Pos} {t : TT} (h : PT X (mkB op (y :: ys) pos) t) : PW X (.BoolOp op (y :: ys) pos) t := by
  cases ys with
  | nil =>
    cases op with
    | And => exact pw_and1 h
    | Or => exact pw_or1 h
  | cons z zs => exact ⟨fun wh pins s σ H Q I q => h.run pins s σ H Q I q⟩
theorem nt_and {a b : E} {x y : Expr} {ys : List Expr} {pos : Pos} (ha : PT X x (tT X.K X.w ex W HB pb a)) (hb : PT X (mkB .And (y :: ys) pos) (tT X.K X.w ex W HB pb b)) : PT X (.BoolOp .And (x :: y :: ys) pos) (tT X.K X.w ex W HB pb (.and a b)) := by
  refine PW.pt (pw_mono (pw_and ha (mkB_pw hb)) fun σ H Q h => ?_)
  obtain ⟨δ, g, pa, S, p⟩ := h
  refine ⟨δ, g, pa, S, ?_⟩
  have e : tst (ev true (.and a b) δ) g = bnd (tst (ev true a δ)) (fun k => match k with | true => tst (ev true b δ) | false => rt false) g := by
    simp only [ev, tst, bnd]
    cases ev true a δ g with
    | no => rfl
    | exc c fs g' => rfl
    | ok y g' =>
      cases y with
      | pen => rfl
      | d y =>
        simp only [dat, rt]
        cases q : truthO y with
        | none => rfl
        | some k =>
          simp only [ofO, rt]
          cases k with
          | true => rfl
          | false => simp only [rt, q]
  rw [e] at p
  refine postG_mono (postG_st (postG_bnd p)) fun k g1 H1 p1 ⟨st, p⟩ => ?_
  cases k with
  | true => exact ⟨δ, g1, p1, S.step st, p⟩
  | false => exact p H1 p1 (Stp.refl st.pen)
theorem nt_or {a b : E} {x y : Expr} {ys : List Expr} {pos : Pos} (ha : PT X x (tT X.K X.w ex W HB pb a)) (hb : PT X (mkB .Or (y :: ys) pos) (tT X.K X.w ex W HB pb b)) : PT X (.BoolOp .Or (x :: y :: ys) pos) (tT X.K X.w ex W HB pb (.or a b)) := by
  refine PW.pt (pw_mono (pw_or ha (mkB_pw hb)) fun σ H Q h => ?_)
  obtain ⟨δ, g, pa, S, p⟩ := h
  refine ⟨δ, g, pa, S, ?_⟩
  have e : tst (ev true (.or a b) δ) g = bnd (tst (ev true a δ)) (fun k => match k with | true => rt true | false => tst (ev true b δ)) g := by
    simp only [ev, tst, bnd]
    cases ev true a δ g with
    | no => rfl
    | exc c fs g' => rfl
    | ok y g' =>
      cases y with
      | pen => rfl
      | d y =>
        simp only [dat, rt]
        cases q : truthO y with
        | none => rfl
        | some k =>
          simp only [ofO, rt]
          cases k with
          | false => rfl
          | true => simp only [rt, q]
  rw [e] at p
  refine postG_mono (postG_st (postG_bnd p)) fun k g1 H1 p1 ⟨st, p⟩ => ?_
  cases k with
  | false => exact ⟨δ, g1, p1, S.step st, p⟩
  | true => exact p H1 p1 (Stp.refl st.pen)
theorem n_ife {c a b : E} {z x y : Expr} {pos : Pos} (hc : PT X z (tT X.K X.w ex W HB pb c)) (ha : PE X x (TX X ex W HB pb r a)) (hb : PE X y (TX X ex W HB pb r b)) : PE X (.IfExp z x y pos) (TX X ex W HB pb r (.ife c a b)) := by
  refine pe_mono (pe_ifExp hc ha hb) fun σ H Q h => ?_
  obtain ⟨δ, g, pa, S, p⟩ := h
  simp only [ev] at p
  obtain ⟨δ1, g1, p1, S1, p⟩ := tT1 (β := Unit) S p
  refine ⟨δ1, g1, p1, S1, postG_mono p fun k _ H1 _ ⟨g2, p2, S2, _, p⟩ => ?_⟩
  cases k with
  | true => exact ⟨δ, g2, p2, S2, p⟩
  | false => exact ⟨δ, g2, p2, S2, p⟩
end
end Ld
/-! text LdI -/
set_option Elab.async false
set_option linter.all false
set_option maxRecDepth 100000
set_option maxHeartbeats 4000000
namespace Ld
open PySem PySem.Spec L2
open PyProof.Rows hiding St
variable [Fs]
open PySem.W (TotalLe sameRank sort_unique EachIs dataLe AllAlike Sortable)

/-! ### the sort -/
theorem leD_eq : leD = dataLe false (fun d => d) := rfl
theorem leD_total : TotalLe leD := leD_eq ▸ PySem.W.sortLe_total _ _ _
theorem insD_pair {x : PyData} : ∀ {l : List PyData}, l.Pairwise (fun a b => leD a b = true) → (insD x l).Pairwise (fun a b => leD a b = true)
  | [], _ => by simp [insD]
  | y :: r, h => by
    obtain ⟨h1, h2⟩ := List.pairwise_cons.mp h
    unfold insD
    cases q : leD x y with
    | true =>
      refine List.pairwise_cons.mpr ⟨fun z hz => ?_, h⟩
      rcases List.mem_cons.mp hz with rfl | hz
      · exact q
      · exact leD_total.trans _ _ _ q (h1 z hz)
    | false =>
      have hyx : leD y x = true := (leD_total.total y x).elim id fun e => by rw [q] at e; cases e
      refine List.pairwise_cons.mpr ⟨fun z hz => ?_, insD_pair h2⟩
      have : z = x ∨ z ∈ r := by
        clear h1 h2 h
        induction r with
        | nil => simp [insD] at hz; exact .inl hz
        | cons w t ih =>
          unfold insD at hz
          cases q2 : leD x w with
          | true =>
            rw [q2] at hz
            rcases List.mem_cons.mp hz with h | h
            · exact .inl h
            · exact .inr h
          | false =>
            rw [q2] at hz
            rcases List.mem_cons.mp hz with h | h
            · exact .inr (by simp [h])
            · rcases ih h with h | h
              · exact .inl h
              · exact .inr (List.mem_cons_of_mem _ h)
      rcases this with rfl | hz
      · exact hyx
      · exact h1 z hz
theorem insD_filter (c x : PyData) : ∀ l : List PyData, (insD x l).filter (sameRank leD c) = (x :: l).filter (sameRank leD c)
  | [] => rfl
  | y :: r => by
    unfold insD
    cases q : leD x y with
    | true => rfl
    | false =>
      have ih := insD_filter c x r
      simp only [List.filter_cons] at ih ⊢
      rw [ih]
      cases h1 : sameRank leD c x with
      | false => simp
      | true =>
        cases h2 : sameRank leD c y with
        | false => simp
        | true =>
          exfalso
          unfold sameRank at h1 h2
          rw [Bool.and_eq_true] at h1 h2
          have := leD_total.trans _ _ _ h1.2 h2.1
          rw [q] at this; cases this
theorem isort_pair : ∀ l : List PyData, (isort l).Pairwise (fun a b => leD a b = true)
  | [] => .nil
  | x :: r => insD_pair (isort_pair r)
theorem isort_filter (c : PyData) : ∀ l : List PyData, (isort l).filter (sameRank leD c) = l.filter (sameRank leD c)
  | [] => rfl
  | x :: r => by
    show (insD x (isort r)).filter _ = _
    rw [insD_filter, List.filter_cons, List.filter_cons, isort_filter c r]
theorem isort_eq (l : List PyData) : isort l = l.mergeSort leD := sort_unique leD_total (isort_pair l) fun c => isort_filter c l

/-! ### builtins by their data -/
/-- read, one by one -/
abbrev RdAll (K : PySem.W.Frag) (w : World) (H : Hp) (pa : Option Addr) : List PyData → List V → Prop := Paired fun d v => DvOk .read K w H pa (.d d) v
def rBi (K : PySem.W.Frag) (w : World) (r : Md) (b : Bi) : List V → Hp → VK → Prop := fun vs H Q => ∃ pa g ds z, PenOk K w H pa g ∧ RdAll K w H pa ds vs ∧ biD b ds = some z ∧ okP K w H pa r (.d z) g Q
section
variable {X : Cx} {r : Md}
theorem rdAll1 {K : PySem.W.Frag} {w : World} {H : Hp} {pa : Option Addr} {d : PyData} {vs : List V} (h : RdAll K w H pa [d] vs) : ∃ v, vs = [v] ∧ DvOk .read K w H pa (.d d) v := by
  cases h with
  | cons a b => cases b; exact ⟨_, rfl, a⟩
theorem rdAll2 {K : PySem.W.Frag} {w : World} {H : Hp} {pa : Option Addr} {d e : PyData} {vs : List V} (h : RdAll K w H pa [d, e] vs) : ∃ v u, vs = [v, u] ∧ DvOk .read K w H pa (.d d) v ∧ DvOk .read K w H pa (.d e) u := by
  cases h with
  | cons a b => cases b with
    | cons c d => cases d; exact ⟨_, _, rfl, a, c⟩
theorem b_len : CallR X (.builtin "len") (rBi X.K X.w r .len) := by
  intro pins s σ H vs us Q I rv h
  obtain ⟨pa, g, ds, z, pen, rd, e, q⟩ := h
  cases ds with
  | nil => simp [biD] at e
  | cons d ds => cases ds with
    | cons => cases d <;> simp [biD] at e
    | nil =>
      obtain ⟨v, rfl, dv⟩ := rdAll1 rd
      have fin : ∀ n : Nat, z = .int n → LenV X.K v H n → wpAny (model X.prog X.w) X.A (call (.builtin "len") us) (EP X pins σ Q) X.xe s := fun n e1 e2 => by
        subst e1
        exact call_len pins s σ H _ us Q I rv ⟨v, n, rfl, e2, okP_here q pen (.int _) rfl⟩
      cases d with
      | str x =>
        obtain ⟨h1, h2⟩ := mth (show (match decide (x.length ≤ maxLen) with | true => some (PyData.int x.length) | false => none) = some z from e)
        cases rd_str dv
        exact fin x.length h2.symm ⟨Nat.le_trans (of_decide_eq_true h1) maxLen_le, rfl⟩
      | list xs =>
        obtain ⟨a, ws, rfl, sq, ra, _⟩ := rd_lst dv
        exact fin xs.length (Option.some.inj e).symm (.inl ⟨ws, sq, by rw [ra.length]⟩)
      | tuple xs =>
        obtain ⟨a, ws, rfl, sq, ra⟩ := rd_tup dv
        exact fin xs.length (Option.some.inj e).symm (.inr ⟨ws, sq, by rw [ra.length]⟩)
      | dict kvs =>
        have e := (Option.some.inj e).symm
        subst e
        obtain ⟨a, rfl, hh⟩ := rd_dct dv
        obtain ⟨u, rfl, rx⟩ := vals1 rv
        cases rx
        rcases hh with ⟨ns, hr, rn⟩ | ⟨ls, hr, rl⟩
        · obtain ⟨hd, hz, xs, x1, dd⟩ := dn_road I hr rn
          have e1 : kvs.length = xs.length := rn.length.trans (Paired.length x1)
          refine call_len_dictH hd dd (by rw [← e1, rn.length]; rw [sizeLine_eq] at hz; omega) ?_
          rw [← e1]
          exact ⟨.int ((kvs.length : Nat) : Int), H, I.tok _, ⟨_, rfl⟩, okP_here q pen (.int _) rfl⟩
        · obtain ⟨hz, hd, vs, rel, dd⟩ := dk_rd I.hok hr
          have e1 : kvs.length = vs.length := rl.length.trans (Paired.length rel)
          refine call_len_dict hd dd (by rw [← e1, rl.length]; rw [sizeLine_eq] at hz; omega) ?_
          rw [← e1]
          exact ⟨.int ((kvs.length : Nat) : Int), H, I.tok _, ⟨_, rfl⟩, okP_here q pen (.int _) rfl⟩
      | _ => simp [biD] at e
theorem ints_are {K : PySem.W.Frag} {w : World} {H : Hp} : ∀ {xs : List PyData} {vs : List V} {us : List Value} {bs : List Int}, intsD xs = some bs → RpA K w H xs vs → Vals vs us → IntsAre us bs
  | [], _, _, _, e, .nil, r => by cases r; cases e; exact .nil
  | x :: r, _, _, _, e, .cons a b, rv => by
    cases rv with
    | cons r1 r2 =>
      cases x <;> try (simp [intsD] at e; done)
      rename_i k
      unfold intsD at e
      cases q : intsD r with
      | none => rw [q] at e; cases e
      | some ks =>
        rw [q] at e
        cases e
        cases a
        obtain ⟨t, rfl⟩ := r1
        exact .cons _ _ (ints_are q b r2)
theorem lst_is (I : Inv X pins σ H s) {pa : Option Addr} {xs : List PyData} {v : V} (dv : DvOk .read X.K X.w H pa (.d (.list xs)) v) {u : Value} (rv : RelV v u) :
    ∃ a vs its, v = .ref a ∧ u = .ref a ∧ RpA X.K X.w H xs vs ∧ Vals vs its ∧ s.heap.IsList a its.toArray ∧ vs.length ≤ sizeLine := by
  obtain ⟨a, ws, rfl, sq, ra, _⟩ := rd_lst dv
  cases rv
  obtain ⟨its, r', pl, hz⟩ := I.list sq
  exact ⟨a, ws, its, rfl, rfl, ra, r', pl.isList, hz⟩
theorem bools_plain : ∀ {xs : List PyData} {bs : List Bool}, boolsD xs = some bs → PyData.plainAll xs = true ∧ (∀ x ∈ xs, x.fits63) ∧ xs.all PyData.truthy = bs.all id ∧ xs.any PyData.truthy = bs.any id
  | [], _, e => by cases e; exact ⟨rfl, by simp, rfl, rfl⟩
  | x :: r, bs, e => by
    cases x <;> try (simp [boolsD] at e; done)
    rename_i k
    unfold boolsD at e
    cases q : boolsD r with
    | none => rw [q] at e; cases e
    | some ks =>
      rw [q] at e
      cases e
      obtain ⟨h1, h2, h3, h4⟩ := bools_plain q
      refine ⟨?_, ?_, ?_, ?_⟩
      · rw [PyData.plainAll, h1]; rfl
      · intro x hx
        rcases List.mem_cons.mp hx with rfl | hx
        · trivial
        · exact h2 x hx
      · rw [List.all_cons, List.all_cons, h3]; rfl
      · rw [List.any_cons, List.any_cons, h4]; rfl
theorem all_inv {xs : List PyData} {z : PyData} (e : biD .all [.list xs] = some z) : ∃ bs, boolsD xs = some bs ∧ z = .bool (bs.all id) := by
  have e : (match boolsD xs with
    | some bs => some (PyData.bool (bs.all id))
    | none => none) = some z := e
  cases q : boolsD xs with
  | none => rw [q] at e; cases e
  | some bs => rw [q] at e; cases e; exact ⟨bs, rfl, rfl⟩
theorem any_inv {xs : List PyData} {z : PyData} (e : biD .any [.list xs] = some z) : ∃ bs, boolsD xs = some bs ∧ z = .bool (bs.any id) := by
  have e : (match boolsD xs with
    | some bs => some (PyData.bool (bs.any id))
    | none => none) = some z := e
  cases q : boolsD xs with
  | none => rw [q] at e; cases e
  | some bs => rw [q] at e; cases e; exact ⟨bs, rfl, rfl⟩
/-- of one list -/
theorem one_list {b : Bi} {ds : List PyData} {z : PyData} (e : biD b ds = some z) (hb : b = .all ∨ b = .any ∨ b = .sum) : ∃ xs, ds = [.list xs] := by
  rcases hb with rfl | rfl | rfl <;> (cases ds with
    | nil => simp [biD] at e
    | cons d ds => cases ds with
      | cons => cases d <;> simp [biD] at e
      | nil => cases d <;> first | exact ⟨_, rfl⟩ | simp [biD] at e)
theorem b_all (hc : X.calm = true) : CallR X (.builtin "all") (rBi X.K X.w r .all) := by
  intro pins s σ H vs us Q I rv h
  obtain ⟨pa, g, ds, z, pen, rd, e, q⟩ := h
  obtain ⟨xs, rfl⟩ := one_list e (.inl rfl)
  obtain ⟨bs, hb, rfl⟩ := all_inv e
  obtain ⟨v, rfl, dv⟩ := rdAll1 rd
  obtain ⟨u, rfl, rx⟩ := vals1 rv
  obtain ⟨a, ws, its, rfl, rfl, ra, r', hl, hz⟩ := lst_is I dv rx
  obtain ⟨as, hr⟩ := RpA.reads I ra r'
  obtain ⟨h1, h2, h3, h4⟩ := bools_plain hb
  refine PySem.W.all_list_data (I.ok.hd hc) hl hr h1 h2 fun h' tk hk => ?_
  rw [h3]
  exact ep_here (v := .bl (bs.all id)) (I.kept (t' := tk) hk) rfl pen (.bool _) rfl q
theorem b_any (hc : X.calm = true) : CallR X (.builtin "any") (rBi X.K X.w r .any) := by
  intro pins s σ H vs us Q I rv h
  obtain ⟨pa, g, ds, z, pen, rd, e, q⟩ := h
  obtain ⟨xs, rfl⟩ := one_list e (.inr (.inl rfl))
  obtain ⟨bs, hb, rfl⟩ := any_inv e
  obtain ⟨v, rfl, dv⟩ := rdAll1 rd
  obtain ⟨u, rfl, rx⟩ := vals1 rv
  obtain ⟨a, ws, its, rfl, rfl, ra, r', hl, hz⟩ := lst_is I dv rx
  obtain ⟨as, hr⟩ := RpA.reads I ra r'
  obtain ⟨h1, h2, h3, h4⟩ := bools_plain hb
  refine PySem.W.any_list_data (I.ok.hd hc) hl hr h1 h2 fun h' tk hk => ?_
  rw [h4]
  exact ep_here (v := .bl (bs.any id)) (I.kept (t' := tk) hk) rfl pen (.bool _) rfl q
theorem b_sum (hc : X.calm = true) : CallR X (.builtin "sum") (rBi X.K X.w r .sum) := by
  intro pins s σ H vs us Q I rv h
  obtain ⟨pa, g, ds, z, pen, rd, e, q⟩ := h
  obtain ⟨xs, rfl⟩ := one_list e (.inr (.inr rfl))
  have e : (match intsD xs with
    | some ns => some (PyData.int ns.sum)
    | none => none) = some z := e
  cases hb : intsD xs with
  | none => rw [hb] at e; cases e
  | some ns =>
    rw [hb] at e
    cases e
    obtain ⟨v, rfl, dv⟩ := rdAll1 rd
    obtain ⟨u, rfl, rx⟩ := vals1 rv
    obtain ⟨a, ws, its, rfl, rfl, ra, r', hl, hz⟩ := lst_is I dv rx
    have hi := ints_are hb ra r'
    obtain ⟨xs, hx⟩ := hi.allInts.items
    have hl' : s.heap.IsList a (intItems xs) := hx ▸ hl
    refine sum_intListG (I.ok.hd hc) hl' fun h' tk t' hk => ?_
    have e1 : ns = xs.toList.map (·.1) := by
      rw [← nums_intItems, ← hx]
      exact (show numsOf its.toArray.toList = ns from hi.numsOf).symm
    have e2 : preSum (numAt xs) xs.size = ns.sum := by
      rw [preSum_eq, List.take_of_length_le (by simp), e1]
    rw [e2]
    exact ep_here (v := .int ns.sum) (I.kept (t' := tk) hk) ⟨_, rfl⟩ pen (.int _) rfl q
/-- of a list or a tuple: what stands there -/
theorem seq_is {pa : Option Addr} {K : PySem.W.Frag} {w : World} {H : Hp} {d : PyData} {xs : List PyData} {v : V} (dv : DvOk .read K w H pa (.d d) v) (hd : d = .list xs ∨ d = .tuple xs) :
    ∃ a vs, v = .ref a ∧ (SqL K H a vs ∨ SqT K H a vs) ∧ RpA K w H xs vs ∧ (d = .tuple xs → SqT K H a vs) ∧ (d = .list xs → SqL K H a vs) := by
  rcases hd with rfl | rfl
  · obtain ⟨a, ws, rfl, sq, ra, _⟩ := rd_lst dv
    exact ⟨a, ws, rfl, .inl sq, ra, (fun e => by cases e), fun _ => sq⟩
  · obtain ⟨a, ws, rfl, sq, ra⟩ := rd_tup dv
    exact ⟨a, ws, rfl, .inr sq, ra, fun _ => sq, fun e => by cases e⟩
theorem b_list : CallR X (.type "list") (rBi X.K X.w r .list) := by
  intro pins s σ H vs us Q I rv h
  obtain ⟨pa, g, ds, z, pen, rd, e, q⟩ := h
  have hs : ∃ d xs, ds = [d] ∧ (d = .list xs ∨ d = .tuple xs) ∧ z = .list xs := by
    cases ds with
    | nil => simp [biD] at e
    | cons d ds => cases ds with
      | cons => cases d <;> simp [biD] at e
      | nil => cases d <;> first | exact ⟨_, _, rfl, .inl rfl, (Option.some.inj e).symm⟩ | exact ⟨_, _, rfl, .inr rfl, (Option.some.inj e).symm⟩ | simp [biD] at e
  obtain ⟨d, xs, rfl, hd, rfl⟩ := hs
  obtain ⟨v, rfl, dv⟩ := rdAll1 rd
  obtain ⟨a, ws, rfl, sq, ra, _, _⟩ := seq_is dv hd
  refine thn (call_list_of pins s σ H _ us (fun v H' => ∃ l, v = .ref l ∧ H l = none ∧ H' = upd H l (.lst ws)) I rv ⟨a, ws, rfl, sq, fun l n => ⟨l, rfl, n, rfl⟩⟩) fun u s1 ⟨v, H', I1, r1, l, e1, n, e2⟩ => ?_
  subst e1 e2
  cases r1
  exact fin_lst I1 n pen ra q
theorem b_tuple : CallR X (.type "tuple") (rBi X.K X.w r .tuple) := by
  intro pins s σ H vs us Q I rv h
  obtain ⟨pa, g, ds, z, pen, rd, e, q⟩ := h
  have hs : ∃ d xs, ds = [d] ∧ (d = .list xs ∨ d = .tuple xs) ∧ z = .tuple xs := by
    cases ds with
    | nil => simp [biD] at e
    | cons d ds => cases ds with
      | cons => cases d <;> simp [biD] at e
      | nil => cases d <;> first | exact ⟨_, _, rfl, .inl rfl, (Option.some.inj e).symm⟩ | exact ⟨_, _, rfl, .inr rfl, (Option.some.inj e).symm⟩ | simp [biD] at e
  obtain ⟨d, xs, rfl, hd, rfl⟩ := hs
  obtain ⟨v, rfl, dv⟩ := rdAll1 rd
  obtain ⟨a, ws, rfl, sq, ra, ht, hl⟩ := seq_is dv hd
  refine call_tuple_of pins s σ H _ us Q I rv ⟨a, ws, rfl, ?_⟩
  rcases hd with rfl | rfl
  · refine .inl ⟨hl rfl, fun l n => okP_rp q (Stp.new pen n) (.tup (.inl (.inl upd_same)) (ra.kp (Kp.new n))) rfl⟩
  · exact .inr ⟨ht rfl, okP_here q pen (.tup (ht rfl) ra) rfl⟩
theorem b_int : CallR X (.type "int") (rBi X.K X.w r .int) := by
  intro pins s σ H vs us Q I rv h
  obtain ⟨pa, g, ds, z, pen, rd, e, q⟩ := h
  cases ds with
  | nil => simp [biD] at e
  | cons d ds => cases ds with
    | cons => cases d <;> simp [biD] at e
    | nil =>
      obtain ⟨v, rfl, dv⟩ := rdAll1 rd
      refine call_int1 pins s σ H _ us Q I rv ?_
      cases d <;> try (simp [biD] at e; done)
      case int i =>
        cases rd_int dv
        cases Option.some.inj e
        exact .inl ⟨i, rfl, okP_here q pen (.int _) rfl⟩
      case bool i =>
        cases rd_bool dv
        cases Option.some.inj e
        exact .inr ⟨i, rfl, okP_here q pen (.int _) rfl⟩
theorem two_ints {b : Bi} {ds : List PyData} {z : PyData} (e : biD b ds = some z) (hb : b = .min ∨ b = .max) : ∃ i j, ds = [.int i, .int j] := by
  rcases hb with rfl | rfl <;> (cases ds with
    | nil => simp [biD] at e
    | cons d ds => cases ds with
      | nil => cases d <;> simp [biD] at e
      | cons c ds => cases ds with
        | nil => cases d <;> (first | (cases c <;> first | exact ⟨_, _, rfl⟩ | simp [biD] at e) | simp [biD] at e)
        | cons => cases d <;> (first | (cases c <;> simp [biD] at e) | simp [biD] at e))
theorem b_min (hc : X.calm = true) : CallR X (.builtin "min") (rBi X.K X.w r .min) := by
  intro pins s σ H vs us Q I rv h
  obtain ⟨pa, g, ds, z, pen, rd, e, q⟩ := h
  obtain ⟨i, j, rfl⟩ := two_ints e (.inl rfl)
  obtain ⟨v, u, rfl, dv, du⟩ := rdAll2 rd
  cases rd_int dv
  cases rd_int du
  cases Option.some.inj e
  exact call_min2 hc pins s σ H _ us Q I rv ⟨i, j, rfl, okP_here q pen (.int _) rfl⟩
theorem b_max (hc : X.calm = true) : CallR X (.builtin "max") (rBi X.K X.w r .max) := by
  intro pins s σ H vs us Q I rv h
  obtain ⟨pa, g, ds, z, pen, rd, e, q⟩ := h
  obtain ⟨i, j, rfl⟩ := two_ints e (.inr rfl)
  obtain ⟨v, u, rfl, dv, du⟩ := rdAll2 rd
  cases rd_int dv
  cases rd_int du
  cases Option.some.inj e
  exact call_max2 hc pins s σ H _ us Q I rv ⟨i, j, rfl, okP_here q pen (.int _) rfl⟩
theorem b_str : CallR X (.type "str") (rBi X.K X.w r .str) := by
  intro pins s σ H vs us Q I rv h
  obtain ⟨pa, g, ds, z, pen, rd, e, q⟩ := h
  cases ds with
  | nil => simp [biD] at e
  | cons d ds => cases ds with
    | cons => cases d <;> simp [biD] at e
    | nil =>
      obtain ⟨v, rfl, dv⟩ := rdAll1 rd
      cases d <;> try (simp [biD] at e; done)
      rename_i i
      obtain ⟨h1, h2⟩ := mth (show (match decide (i.natAbs.log2 < 1920) with | true => some (PyData.str (toString i)) | false => none) = some z from e)
      cases rd_int dv
      subst h2
      exact call_str_int pins s σ H _ us Q I rv ⟨i, rfl, of_decide_eq_true h1, okP_here q pen (.str _) rfl⟩
theorem noSys_of (R : Rdy X) (I : Inv X pins σ H s) : NoSys s := by
  obtain ⟨o, h, c⟩ := R.sys
  exact ⟨o, (I.bs _ _ h).1, c⟩
theorem b_repr (R : Rdy X) : CallR X (.builtin "repr") (rBi X.K X.w r .repr) := by
  intro pins s σ H vs us Q I rv h
  obtain ⟨pa, g, ds, z, pen, rd, e, q⟩ := h
  cases ds with
  | nil => simp [biD] at e
  | cons d ds => cases ds with
    | cons => simp [biD] at e
    | nil =>
      obtain ⟨v, rfl, dv⟩ := rdAll1 rd
      obtain ⟨u, rfl, rx⟩ := vals1 rv
      obtain ⟨h1, h2⟩ := mth (show (match d.showable && (decide (d.depth ≤ 60) && decide (d.shown.length ≤ maxLen)) with | true => some (PyData.str d.shown) | false => none) = some z from e)
      subst h2
      simp only [Bool.and_eq_true, decide_eq_true_eq] at h1
      obtain ⟨hs, hd, hl⟩ := h1
      have hl : d.shown.length ≤ sizeLine := Nat.le_trans hl maxLen_le
      obtain ⟨as, rr, nn⟩ := rd_reads2 I dv rx
      have hu := R.hu
      have fin : ∀ (h' : Heap) (t : Tok) (tk : Nat), (∀ b o, s.heap.get? b = some o → h'.get? b = some o) → EP X pins σ Q (.str d.shown t) { s with heap := h', toks := tk } := fun h' t tk hk =>
        ep_here (v := .str d.shown) (I.kept (t' := tk) hk) ⟨t, rfl⟩ pen (.str _) rfl q
      have ref : ∀ a, u = .ref a → wpAny (model X.prog X.w) X.A (call (.builtin "repr") [u]) (EP X pins σ Q) X.xe s := fun a ea => by
        subst ea
        exact repr_of_reads' rr hs (fun _ => nn (noSys_of R I)) R.gd (by omega) (fun _ _ e => e) (fun h' u tk hk => fin h' u tk hk) hl
      cases rr with
      | none => exact PySem.P.repr_of_none (fin _ _ _ fun _ _ e => e)
      | bool b => exact PySem.P.repr_of_bool (fin _ _ _ fun _ _ e => e)
      | int i t =>
        refine PySem.P.repr_of_int ?_ (fin _ _ _ fun _ _ e => e)
        simpa [PyData.showable] using hs
      | str x t => exact PySem.P.repr_of_str (fin _ _ _ fun _ _ e => e) hl
      | list => exact ref _ rfl
      | tuple => exact ref _ rfl
      | dict => exact ref _ rfl
/-! ### isinstance -/
def tyNm : Ty → String
  | .int => "int"
  | .bool => "bool"
  | .str => "str"
  | .tuple => "tuple"
  | .list => "list"
  | .dict => "dict"
def rIsD (K : PySem.W.Frag) (w : World) (t : Ty) : List V → Hp → VK → Prop := fun vs H Q => ∃ pa x v, vs = [v, .ty (tyNm t)] ∧ DvOk .read K w H pa (.d x) v ∧ Q (.bl (isiD t x)) H
theorem b_isi (t : Ty) : CallR X (.builtin "isinstance") (rIsD X.K X.w t) := by
  intro pins s σ H vs us Q I rv h
  obtain ⟨pa, x, v, rfl, dv, q⟩ := h
  cases rv with
  | cons r1 r2 => cases r2 with
    | cons r2 r3 =>
      cases r3
      cases r2
      obtain ⟨as, rr⟩ := rd_reads I dv r1
      have fin : ∀ (k : Bool), k = isiD t x → ∀ tk, s.toks ≤ tk → EP X pins σ Q (.bool k) { s with toks := tk } := fun k e tk _ => ⟨.bl k, H, I.tok _, rfl, by rw [e]; exact q⟩
      cases t with
      | int => exact PySem.W.isinstance_int_data rr (fin _ (by cases x <;> rfl))
      | bool => exact PySem.W.isinstance_bool_data rr (fin _ (by cases x <;> rfl))
      | str => exact PySem.W.isinstance_str_data rr (fin _ (by cases x <;> rfl))
      | tuple => exact PySem.W.isinstance_tuple_data rr (fin _ (by cases x <;> rfl))
      | list => exact PySem.W.isinstance_list_data rr (fin _ (by cases x <;> rfl))
      | dict => exact PySem.W.isinstance_dict_data rr (fin _ (by cases x <;> rfl))
/-! ### sorted -/
theorem allAlike_of {ds : List PyData} (h : allAlike ds = true) : AllAlike ds := fun d hd e he => by
  unfold allAlike at h
  exact List.all_eq_true.mp (List.all_eq_true.mp h d hd) e he
theorem sortable_of {ds : List PyData} (h : sortable ds = true) : Sortable ds := by
  unfold sortable at h
  rcases Bool.or_eq_true_iff.mp h with h | h
  · refine .inl fun d hd => ?_
    have := List.all_eq_true.mp h d hd
    split at this
    · exact ⟨_, _, rfl⟩
    · cases this
  · refine .inr fun d hd => ?_
    have := List.all_eq_true.mp h d hd
    split at this
    · cases this
    · cases this
    · rename_i n1 n2
      exact ⟨n1, n2⟩
theorem sortD_some {ds ys : List PyData} (h : sortD ds = some ys) : AllAlike ds ∧ Sortable ds ∧ ds.all (fun d => decide (d.depth ≤ 60)) = true ∧ ys = ds.mergeSort leD := by
  unfold sortD at h
  cases q : allAlike ds && (sortable ds && ds.all fun d => decide (d.depth ≤ 60)) with
  | false => rw [q] at h; cases h
  | true =>
    rw [q] at h
    cases h
    rw [Bool.and_eq_true, Bool.and_eq_true] at q
    exact ⟨allAlike_of q.1, sortable_of q.2.1, q.2.2, isort_eq _⟩
theorem sortG_some {ds : List PyData} {z : PyData} (e : (match sortD ds with | some ys => some (PyData.list ys) | none => none) = some z) : ∃ ys, sortD ds = some ys ∧ z = .list ys := by
  cases q : sortD ds with
  | none => rw [q] at e; cases e
  | some ys => rw [q] at e; cases e; exact ⟨ys, rfl, rfl⟩
/-- each value with its datum -/
theorem rpA_zip {K : PySem.W.Frag} {w : World} {H : Hp} : ∀ {ds : List PyData} {vs : List V} {us : List Value}, RpA K w H ds vs → Vals vs us → EachIs (fun u (b : V × PyData) => RelV b.1 u ∧ Rp K w H b.2 b.1) us (vs.zip ds) ∧ (vs.zip ds).map (·.2) = ds
  | _, _, _, .nil, r => by cases r; exact ⟨.nil, rfl⟩
  | _, _, _, .cons a b, r => by
    cases r with
    | cons r1 r2 =>
      obtain ⟨h1, h2⟩ := rpA_zip b r2
      exact ⟨.cons ⟨r1, a⟩ h1, by simp [h2]⟩
theorem each_back {K : PySem.W.Frag} {w : World} {H : Hp} : ∀ {us : List Value} {bs : List (V × PyData)}, EachIs (fun u (b : V × PyData) => RelV b.1 u ∧ Rp K w H b.2 b.1) us bs → RpA K w H (bs.map (·.2)) (bs.map (·.1)) ∧ Vals (bs.map (·.1)) us
  | _, _, .nil => ⟨.nil, .nil⟩
  | _, _, .cons a b => by
    obtain ⟨h1, h2⟩ := each_back b
    exact ⟨.cons a.2 h1, .cons a.1 h2⟩
theorem sorted_core {l : Addr} {vs : List V} {its : List Value} {ds ys : List PyData} {Q : Value → Shared → Prop} (hA : X.A.units + 200 < cLine) (hl : s.heap.IsList l its.toArray) (rp : RpA X.K X.w H ds vs) (rv : Vals vs its) (I : Inv X pins σ H s) (hy : sortD ds = some ys)
    (hz : vs.length ≤ sizeLine) (h : ∀ out vs' n (h' : Heap) c, (∀ b o, s.heap.get? b = some o → h'.get? b = some o) → s.heap.objs.size ≤ n → h'.get? n = some { cls := .type "list", data := .seq (out : List Value).toArray c } → Vals vs' out → RpA X.K X.w H ys vs' → vs'.length ≤ sizeLine → Q (.ref n) { s with heap := h' }) :
    wpAny (model X.prog X.w) X.A (call (.builtin "sorted") [.ref l]) Q X.xe s := by
  obtain ⟨h1, h2⟩ := rpA_zip rp rv
  obtain ⟨ha, hs, hd, rfl⟩ := sortD_some hy
  have hlen : (vs.zip ds).length = vs.length := by rw [List.length_zip, rp.length, Nat.min_self]
  refine PySem.W.sorted_data (bs := vs.zip ds) (enc := fun b => b.2) hl h1 (h1.mono fun u b ⟨q1, q2⟩ => Rp.reads I q2 q1) (by rw [h2]; exact ha) (by rw [h2]; exact hs) (by rw [hlen]; exact hz) (fun b hb => ?_) fun out hl2 ho => ?_
  · have hm : b.2 ∈ ds := by rw [← h2]; exact List.mem_map.mpr ⟨b, hb, rfl⟩
    have := List.all_eq_true.mp hd _ hm
    rw [decide_eq_true_eq] at this
    omega
  · obtain ⟨e, he⟩ := sortedAll_at s.heap its (List.toArray out)
    obtain ⟨b1, b2⟩ := each_back ho
    have em : ((vs.zip ds).mergeSort (dataLe false fun b => b.2)).map (·.2) = ds.mergeSort leD := by
      have e1 := PySem.W.sort_maps (r := dataLe false fun b : V × PyData => b.2) (s := leD) (fun b : V × PyData => b.2) (l := vs.zip ds) (fun a _ b _ => rfl)
      rw [e1, h2]
    rw [em] at b1
    refine h out _ (s.heap.objs.size + 1) _ e (fun b o hb => sortedAll_old hb) (Nat.le_succ _) he b2 b1 ?_
    rw [b2.length, hl2, hlen]
    exact hz
theorem b_sorted (R : Rdy X) : CallR X (.builtin "sorted") (rBi X.K X.w r .sorted) := by
  intro pins s σ H vs us Q I rv h
  obtain ⟨pa, g, ds, z, pen, rd, e, q⟩ := h
  have hs : ∃ xs ys, ds = [.list xs] ∧ sortD xs = some ys ∧ z = .list ys := by
    cases ds with
    | nil => simp [biD] at e
    | cons d ds => cases ds with
      | cons => cases d <;> simp [biD] at e
      | nil =>
        cases d <;> try (simp [biD] at e; done)
        case list xs =>
          obtain ⟨ys, h1, h2⟩ := sortG_some e
          exact ⟨_, ys, rfl, h1, h2⟩
  obtain ⟨xs, ys, rfl, hy, rfl⟩ := hs
  obtain ⟨v, rfl, dv⟩ := rdAll1 rd
  obtain ⟨u, rfl, rx⟩ := vals1 rv
  obtain ⟨a, ws, its, rfl, rfl, ra, r', hl, hz⟩ := lst_is I dv rx
  refine sorted_core R.hu hl ra r' I hy hz fun out vs' n h' c hk hn ho rv' rp' hz' => ?_
  have I1 : Inv X pins σ (upd H n (.lst vs')) { s with heap := h' } := I.laid (t' := s.toks) (o := .lst vs') hk hn ⟨hz', out, c, rv', ho⟩
  exact fin_lst I1 (I.hok.fresh hn) pen rp' q
end
end Ld
/-! text LdJ -/
set_option Elab.async false
set_option linter.all false
set_option maxRecDepth 100000
set_option maxHeartbeats 4000000
namespace Ld
open PySem PySem.Spec L2
open PyProof.Rows hiding St
variable [Fs]

/-! ### argument lists -/
abbrev DvAll (r : Md) (K : PySem.W.Frag) (w : World) (H : Hp) (pa : Option Addr) : List DV → List V → Prop := Paired fun x v => DvOk r K w H pa x v
def tAr (K : PySem.W.Frag) (w : World) (ex : EX) (W : WX) (HB : Hp) (pb : Option Addr) (r : Md) (es : Es) : TA := fun σ H Q => ∃ δ g pa, StOk K w HB pb σ H pa δ g ∧ postG K w ex W σ H pa (evs r.b es δ g) fun xs _ H1 p1 => ∀ vs, DvAll r K w H1 p1 xs vs → Q vs H1
theorem DvAll.step {r : Md} {K : PySem.W.Frag} {w : World} {H H' : Hp} {pa pa' : Option Addr} {g' : G} {xs : List DV} {vs : List V} (h : DvAll r K w H pa xs vs) (st : Stp K w H pa H' pa' g') : DvAll r K w H' pa' xs vs := by
  induction h with
  | nil => exact .nil
  | cons a _ ih => exact .cons (a.step st) ih
def Es.len : Es → Nat
  | .nil => 0
  | .cons _ r => r.len + 1
theorem evs_len {r : Bool} : ∀ {es : Es} {δ : Env'} {g g' : G} {xs : List DV}, evs r es δ g = .ok xs g' → xs.length = es.len
  | .nil, δ, g, g', xs, h => by
    have h : Res.ok ([] : List DV) g = Res.ok xs g' := h
    cases h
    rfl
  | .cons e es, δ, g, g', xs, h => by
    unfold evs at h
    obtain ⟨x, g1, _, h⟩ := bnd_ok h
    obtain ⟨ys, g2, h1, h⟩ := bnd_ok h
    have h : Res.ok (x :: ys) g2 = Res.ok xs g' := h
    cases h
    rw [List.length_cons, evs_len h1]
    rfl
section
variable {X : Cx} {ex : EX} {W : WX} {HB : Hp} {pb : Option Addr} {r : Md} {σ : St} {H : Hp} {pa : Option Addr} {g : G} {δ : Env'} {Q : VK}
theorem tArgs {r1 : Md} {es : Es} {f : List DV → M DV} (S : StOk X.K X.w HB pb σ H pa δ g) (p : post X.K X.w ex W σ H pa r (bnd (evs r1.b es δ) f g) Q) :
    tAr X.K X.w ex W HB pb r1 es σ H fun vs H1 => ∃ xs g1 p1, StOk X.K X.w HB pb σ H1 p1 δ g1 ∧ xs.length = es.len ∧ DvAll r1 X.K X.w H1 p1 xs vs ∧ post X.K X.w ex W σ H1 p1 r (f xs g1) Q := by
  refine ⟨δ, g, pa, S, ?_⟩
  unfold bnd at p
  cases q : evs r1.b es δ g with
  | ok xs g' =>
    rw [q] at p
    exact fun H' pa' st vs dv => ⟨xs, g', pa', S.step st, evs_len q, dv, post_step st p⟩
  | exc c fs g' => rw [q] at p; exact p
  | no => rw [q] at p; exact p
theorem na_nil : PA X [] (tAr X.K X.w ex W HB pb r .nil) := by
  refine pa_mono pa_nil fun σ H Q h => ?_
  obtain ⟨δ, g, pa, S, p⟩ := h
  exact p H pa (Stp.refl S.pen) [] .nil
theorem na_cons {e : E} {es : Es} {x : Expr} {xs : List Expr} (ha : PE X x (TX X ex W HB pb r e)) (hx : nice x = true) (hr : PA X xs (tAr X.K X.w ex W HB pb r es)) : PA X (x :: xs) (tAr X.K X.w ex W HB pb r (.cons e es)) := by
  refine pa_mono (pa_cons ha hr (nice_star hx xs _)) fun σ H Q h => ?_
  obtain ⟨δ, g, pa, S, p⟩ := h
  unfold evs at p
  refine ⟨δ, g, pa, S, ?_⟩
  unfold bnd at p
  cases q : ev r.b e δ g with
  | no => rw [q] at p; exact p.elim
  | exc c fs g' => rw [q] at p; exact p
  | ok y g' =>
    rw [q] at p
    intro v H1 p1 st dv _
    have p := postG_step st p
    refine ⟨δ, g', p1, S.step st, ?_⟩
    simp only at p
    cases q2 : evs r.b es δ g' with
    | no => rw [q2] at p; exact p.elim
    | exc c fs g2 => rw [q2] at p; exact p
    | ok ys g2 =>
      rw [q2] at p
      exact fun H2 p2 st2 vs dvs => p H2 p2 st2 (v :: vs) (.cons (dv.step st2) dvs)
theorem datas_ok : ∀ {xs : List DV} {f : List PyData → M DV}, post X.K X.w ex W σ H pa r (bnd (datas xs) f g) Q → ∃ ds, xs = ds.map .d ∧ post X.K X.w ex W σ H pa r (f ds g) Q
  | [], _, h => ⟨[], rfl, h⟩
  | .pen :: _, _, h => h.elim
  | .d x :: xs, f, h => by
    have h2 : post X.K X.w ex W σ H pa r (bnd (datas xs) (fun ds => f (x :: ds)) g) Q := by
      have e : bnd (datas (.d x :: xs)) f g = bnd (datas xs) (fun ds => f (x :: ds)) g := by
        show bnd (bnd (datas xs) fun ys => rt (x :: ys)) f g = _
        simp only [bnd]
        cases datas xs g <;> rfl
      rw [← e]
      exact h
    obtain ⟨ds, rfl, h3⟩ := datas_ok h2
    exact ⟨x :: ds, rfl, h3⟩
theorem all_rp {K : PySem.W.Frag} {w : World} : ∀ {ds : List PyData} {vs : List V}, DvAll .pure K w H pa (ds.map .d) vs → RpA K w H ds vs
  | [], _, h => by cases h; exact .nil
  | d :: ds, _, h => by
    cases h with
    | cons a b => exact .cons a (all_rp b)
theorem all_rd {K : PySem.W.Frag} {w : World} : ∀ {ds : List PyData} {vs : List V}, DvAll .read K w H pa (ds.map .d) vs → RdAll K w H pa ds vs
  | [], _, h => by cases h; exact .nil
  | d :: ds, _, h => by
    cases h with
    | cons a b => exact .cons a (all_rd b)
/-! ### displays -/
theorem n_tup {es : Es} {xs : List Expr} {k : Nat} {pos : Pos} (h : PA X xs (tAr X.K X.w ex W HB pb .pure es)) (hl : es.len ≤ 1000) : PE X (.Tuple xs k pos) (TX X ex W HB pb r (.tup es)) := by
  refine pe_mono (pe_tup h) fun σ H Q h => ?_
  obtain ⟨δ, g, pa, S, p⟩ := h
  simp only [ev] at p
  obtain ⟨δ1, g1, p1, S1, p⟩ := tArgs (r1 := .pure) S p
  refine ⟨δ1, g1, p1, S1, postG_mono p fun xs _ H1 p2 hh vs dv => ?_⟩
  obtain ⟨xs, g2, p2, S2, el, dv, p⟩ := hh vs dv
  obtain ⟨ds, rfl, p'⟩ := datas_ok p
  have ra := all_rp dv
  rw [List.length_map] at el
  refine ⟨by rw [← ra.length, el, sizeLine_eq]; omega, fun q nq => ?_⟩
  exact okP_rp (d := .tuple ds) p' (Stp.new S2.pen nq) (.tup (.inl (.inl upd_same)) (ra.kp (Kp.new nq))) rfl
/-- a new list of one's own has come -/
def NewL (K : PySem.W.Frag) (w : World) (r : Md) (Q : VK) : VK := fun v H2 => ∃ H1 p1 g1 xs ds p, v = .ref p ∧ H2 = upd H1 p (.lst xs) ∧ H1 p = none ∧ PenOk K w H1 p1 g1 ∧ RpA K w H1 ds xs ∧ okP K w H1 p1 r (.d (.list ds)) g1 Q
theorem newL_fin {pins : List (Addr × Obj)} {u : Value} {s : Shared} (h : EP X pins σ (NewL X.K X.w r Q) u s) : EP X pins σ Q u s := by
  obtain ⟨v, H2, I, rv, H1, p1, g1, xs, ds, p, rfl, rfl, n, pen, rp, q⟩ := h
  cases rv
  exact fin_lst I n pen rp q
theorem pe_newL {x : Expr} {t t' : TE} (h : PE X x t) (hm : ∀ σ H Q, t' σ H Q → t σ H (NewL X.K X.w r Q)) : PE X x t' :=
  ⟨fun pins s σ H Q I q => thn (h.run pins s σ H _ I (hm _ _ _ q)) fun u s' e => newL_fin e⟩
theorem n_lst {es : Es} {xs : List Expr} {pos : Pos} (h : PA X xs (tAr X.K X.w ex W HB pb .pure es)) (hl : es.len ≤ 1000) : PE X (.List xs pos) (TX X ex W HB pb r (.lst es)) := by
  refine pe_newL (r := r) (pe_lst h) fun σ H Q h => ?_
  obtain ⟨δ, g, pa, S, p⟩ := h
  simp only [ev] at p
  obtain ⟨δ1, g1, p1, S1, p⟩ := tArgs (r1 := .pure) S p
  refine ⟨δ1, g1, p1, S1, postG_mono p fun xs _ H1 p2 hh vs dv => ?_⟩
  obtain ⟨xs, g2, p2, S2, el, dv, p⟩ := hh vs dv
  obtain ⟨ds, rfl, p'⟩ := datas_ok p
  have ra := all_rp dv
  rw [List.length_map] at el
  refine ⟨by rw [← ra.length, el, sizeLine_eq]; omega, fun q nq => ?_⟩
  exact ⟨H1, p2, g2, vs, ds, q, rfl, rfl, nq, S2.pen, ra, p'⟩
theorem n_dnew {pos : Pos} : PE X (.Dict [] [] pos) (TX X ex W HB pb r .dnew) := by
  refine ⟨fun pins s σ H Q I h => ?_⟩
  obtain ⟨δ, g, pa, S, p⟩ := h
  refine thn (pe_dnewK.run pins s σ H (fun v H2 => ∃ p, v = .ref p ∧ H p = none ∧ H2 = upd H p (.dK [])) I fun p n => ⟨p, rfl, n, rfl⟩) fun u s1 ⟨v, H2, I1, rv, q, e1, n, e2⟩ => ?_
  subst e1 e2
  cases rv
  exact fin_dcl I1 n S.pen .nil p
/-! ### builtins -/
/-- a call of a builtin with read arguments -/
theorem m_bi {b : Bi} {es : Es} (σ : St) (H : Hp) (Q : VK) (h : TX X ex W HB pb r (.bi b es) σ H Q) : tCB (rBi X.K X.w r b) (tAr X.K X.w ex W HB pb .read es) σ H Q := by
  obtain ⟨δ, g, pa, S, p⟩ := h
  simp only [ev] at p
  obtain ⟨δ1, g1, p1, S1, p⟩ := tArgs (r1 := .read) S p
  refine ⟨δ1, g1, p1, S1, postG_mono p fun xs _ H1 p2 hh vs dv => ?_⟩
  obtain ⟨xs, g2, p2, S2, el, dv, p⟩ := hh vs dv
  obtain ⟨ds, rfl, p'⟩ := datas_ok p
  obtain ⟨z, hz, p⟩ := post_ret p'
  exact ⟨p2, g2, ds, z, S2.pen, all_rd dv, hz, p⟩
def biNm : Bi → Str
  | .len => "len"
  | .all => "all"
  | .any => "any"
  | .tuple => "tuple"
  | .list => "list"
  | .sorted => "sorted"
  | .repr => "repr"
  | .int => "int"
  | .str => "str"
  | .min => "min"
  | .max => "max"
  | .sum => "sum"
  | .dict => "dict"
/-- every argument is plain -/
def niceAll (xs : List Expr) : Bool := xs.all nice
theorem nice_backs {pos : Pos} {env : Env} : ∀ {xs : List Expr}, niceAll xs = true → (backTo pos (starEach xs env)).any (·.1) = false
  | [], _ => rfl
  | x :: xs, h => by
    have h' : (nice x && niceAll xs) = true := h
    rw [Bool.and_eq_true] at h'
    rw [nice_star h'.1]
    show (false || (backTo pos (starEach xs env)).any (·.1)) = false
    rw [nice_backs h'.2]
    rfl
theorem n_bi (R : Rdy X) {b : Bi} {es : Es} {x : Expr} {xs : List Expr} {p pos : Pos} (hb : b ≠ .dict) (hg : Gl X (biNm b)) (hm : X.mg (biNm b) = none) (ha : PA X (x :: xs) (tAr X.K X.w ex W HB pb .read es)) (hx : niceAll (x :: xs) = true) :
    PE X (.Call (.Name (biNm b) p) (x :: xs) [] pos) (TX X ex W HB pb r (.bi b es)) := by
  have hx' : (nice x && niceAll xs) = true := hx
  rw [Bool.and_eq_true] at hx'
  have s1 := nice_star hx'.1 xs X.env
  have s2 := nice_backs (pos := pos) (env := X.env) hx'.2
  cases b with
  | len => exact pe_mono (pe_callB (b_len (r := r)) hg hm PySem.boot_len ha (by decide) (by decide) s1 s2) m_bi
  | all => exact pe_mono (pe_callB (b_all R.calm (r := r)) hg hm PyProof.Rows.boot_all ha (by decide) (by decide) s1 s2) m_bi
  | any => exact pe_mono (pe_callB (b_any R.calm (r := r)) hg hm PyProof.Rows.boot_any ha (by decide) (by decide) s1 s2) m_bi
  | tuple => exact pe_mono (pe_callTy (b_tuple (r := r)) hg hm PyProof.Rows.boot_tuple ha (by decide) (by decide) s1 s2) m_bi
  | list => exact pe_mono (pe_callTy (b_list (r := r)) hg hm PyProof.Rows.boot_list ha (by decide) (by decide) s1 s2) m_bi
  | sorted => exact pe_mono (pe_callB (b_sorted R (r := r)) hg hm PyProof.Rows.boot_sorted ha (by decide) (by decide) s1 s2) m_bi
  | repr => exact pe_mono (pe_callB (b_repr R (r := r)) hg hm PyProof.Rows.boot_repr ha (by decide) (by decide) s1 s2) m_bi
  | int => exact pe_mono (pe_callTy (b_int (r := r)) hg hm PyProof.Rows.boot_int ha (by decide) (by decide) s1 s2) m_bi
  | str => exact pe_mono (pe_callTy (b_str (r := r)) hg hm PyProof.Rows.boot_str ha (by decide) (by decide) s1 s2) m_bi
  | min => exact pe_mono (pe_callB (b_min R.calm (r := r)) hg hm PyProof.Rows.boot_min ha (by decide) (by decide) s1 s2) m_bi
  | max => exact pe_mono (pe_callB (b_max R.calm (r := r)) hg hm PyProof.Rows.boot_max ha (by decide) (by decide) s1 s2) m_bi
  | sum => exact pe_mono (pe_callB (b_sum R.calm (r := r)) hg hm PyProof.Rows.boot_sum ha (by decide) (by decide) s1 s2) m_bi
  | dict => exact absurd rfl hb
theorem n_isi {a : E} {t : Ty} {x : Expr} {p p2 pos : Pos} (hg : Gl X "isinstance") (hm : X.mg "isinstance" = none) (hg2 : Gl X (tyNm t)) (hm2 : X.mg (tyNm t) = none) (ha : PE X x (TX X ex W HB pb .read a)) (hx : nice x = true) :
    PE X (.Call (.Name "isinstance" p) [x, .Name (tyNm t) p2] [] pos) (TX X ex W HB pb r (.isi a t)) := by
  have hT : PE X (.Name (tyNm t) p2) (tC (.ty (tyNm t))) := by
    cases t <;> exact pe_bltn hg2 hm2 (by decide +kernel) rfl
  have s1 := nice_star hx [.Name (tyNm t) p2] X.env
  refine pe_mono (pe_callB (b_isi t) hg hm PyProof.Rows.boot_isinstance (pa_cons ha (pa_cons hT pa_nil) s1) (by decide) (by decide) s1 rfl) fun σ H Q h => ?_
  obtain ⟨δ, g, pa, S, p⟩ := h
  simp only [ev] at p
  obtain ⟨δ1, g1, p1, S1, p⟩ := tE1 (r1 := .read) S p
  refine ⟨δ1, g1, p1, S1, post_mono p fun v H1 ⟨y, g3, p3, S3, _, dx, p⟩ => ?_⟩
  obtain ⟨d, rfl, p⟩ := post_dat p
  exact ⟨p3, d, v, rfl, dx, okP_here (d := .bool (isiD t d)) p S3.pen (.bool _) rfl⟩
end
end Ld
/-! text LdK -/
set_option Elab.async false
set_option linter.all false
set_option maxRecDepth 100000
set_option maxHeartbeats 4000000
namespace Ld
open PySem PySem.Spec L2
open PyProof.Rows hiding St
variable [Fs]

section
variable {X : Cx} {ex : EX} {W : WX} {HB : Hp} {pb : Option Addr} {r : Md} {σ : St} {H : Hp} {pa : Option Addr} {g : G} {δ : Env'} {Q : VK}
/-! ### slices -/
def tPO (K : PySem.W.Frag) (w : World) (ex : EX) (W : WX) (HB : Hp) (pb : Option Addr) (e : E) : TO := fun σ H Q => ∃ δ g pa, StOk K w HB pb σ H pa δ g ∧ postG K w ex W σ H pa (optM e (ev false e δ) g) fun o _ H1 _ => Q o H1
theorem n_po0 : PO X none (tPO X.K X.w ex W HB pb .omit) := by
  refine ⟨fun pins s σ H Q I h => po_none.run pins s σ H Q I ?_⟩
  obtain ⟨δ, g, pa, S, p⟩ := h
  exact p H pa (Stp.refl S.pen)
theorem optM_ne {e : E} {m : M DV} (h : e ≠ .omit) : optM e m = bnd m intO := by
  cases e <;> first | rfl | exact absurd rfl h
theorem cndM_ne {e : E} {m : M DV} (h : e ≠ .omit) : cndM e m = tst m := by
  cases e <;> first | rfl | exact absurd rfl h
theorem n_po1 {e : E} {x : Expr} (hx : PE X x (TX X ex W HB pb .pure e)) (ho : e ≠ .omit) : PO X (some x) (tPO X.K X.w ex W HB pb e) := by
  refine ⟨fun pins s σ H Q I h => (po_some hx).run pins s σ H Q I ?_⟩
  obtain ⟨δ, g, pa, S, p⟩ := h
  rw [optM_ne ho] at p
  refine ⟨δ, g, pa, S, ?_⟩
  unfold bnd at p
  show post X.K X.w ex W σ H pa .pure (ev false e δ g) _
  cases q : ev false e δ g with
  | no => rw [q] at p; exact p.elim
  | exc c fs g' => rw [q] at p; exact p
  | ok y g' =>
    rw [q] at p
    cases y with
    | pen => exact p.elim
    | d y =>
      cases y <;> try exact p.elim
      rename_i i
      intro v H' pa' st dv _
      have e : v = .int i := by cases (show Rp X.K X.w H' (.int i) v from dv); rfl
      exact ⟨i, e, p H' pa' st⟩
theorem tPO1 {e : E} {f : Option Int → M DV} (S : StOk X.K X.w HB pb σ H pa δ g) (p : post X.K X.w ex W σ H pa r (bnd (optM e (ev false e δ)) f g) Q) :
    tPO X.K X.w ex W HB pb e σ H fun o H1 => ∃ g1 p1, StOk X.K X.w HB pb σ H1 p1 δ g1 ∧ Stp X.K X.w H pa H1 p1 g1 ∧ post X.K X.w ex W σ H1 p1 r (f o g1) Q :=
  ⟨δ, g, pa, S, postG_mono (postG_st (post_bndG p)) fun o g1 H1 p1 ⟨st, p⟩ => ⟨g1, p1, S.step st, st, p⟩⟩
def rSlD (K : PySem.W.Frag) (w : World) (r : Md) : V → Option Int → Option Int → Hp → VK → Prop := fun vx lo hi H Q => ∃ pa g x z, PenOk K w H pa g ∧ DvOk .read K w H pa (.d x) vx ∧ slcD x lo hi = some z ∧ okP K w H pa r (.d z) g Q
theorem cut_rp {K : PySem.W.Frag} {w : World} {H : Hp} {xs : List PyData} {vs : List V} (h : RpA K w H xs vs) (lo hi : Option Int) : RpA K w H (cutD xs lo hi) (cutV vs lo hi) := by
  unfold cutD cutV
  rw [h.length]
  exact (h.drop _).take _
theorem cut_all {α : Type} {xs : List α} {lo hi : Option Int} (h : HT.sIx xs.length 0 lo = 0 ∧ HT.sIx xs.length xs.length hi = xs.length) : cutD xs lo hi = xs := by
  unfold cutD
  rw [h.1, h.2]
  simp
theorem sl_data : SlR X (rSlD X.K X.w r) := by
  intro pins s σ H x v vl vu lo hi sl Q I rx hs pl pu h
  obtain ⟨pa, g, d, z, pen, dx, e, q⟩ := h
  cases d <;> try (simp only [slcD, reduceCtorEq] at e)
  case tuple xs =>
    have e := (Option.some.inj e).symm
    subst e
    obtain ⟨a, vs, rfl, sa, ra⟩ := rd_tup dx
    refine sl_tupA pins s σ H _ v vl vu lo hi sl Q I rx hs pl pu ⟨a, vs, rfl, sa, fun hw => ?_, fun hw p np => ?_⟩
    · rw [← ra.length] at hw
      have := cut_all (xs := xs) hw
      rw [this] at q
      exact okP_here q pen (.tup sa ra) rfl
    · exact okP_rp q (Stp.new pen np) (.tup (.inl (.inl upd_same)) ((cut_rp ra lo hi).kp (Kp.new np))) rfl
  case list xs =>
    have e := (Option.some.inj e).symm
    subst e
    obtain ⟨a, vs, rfl, sa, ra, _⟩ := rd_lst dx
    obtain ⟨T, id, h1, h2, h3⟩ := sl_list pins s σ H _ v vl vu lo hi sl (NewL X.K X.w r Q) I rx hs pl pu ⟨a, vs, rfl, sa, fun p np => ⟨H, pa, g, _, _, p, rfl, rfl, np, pen, cut_rp ra lo hi, q⟩⟩
    exact ⟨T, id, h1, h2, thn h3 fun u s' e => newL_fin e⟩
theorem n_slc {a lo hi : E} {x : Expr} {olo ohi : Option Expr} {p2 pos : Pos} (ha : PE X x (TX X ex W HB pb .read a)) (hl : PO X olo (tPO X.K X.w ex W HB pb lo)) (hh : PO X ohi (tPO X.K X.w ex W HB pb hi)) :
    PE X (.Subscript x (.Slice olo ohi none p2) pos) (TX X ex W HB pb r (.slc a lo hi)) := by
  refine pe_mono (pe_slice (sl_data (r := r)) ha hl hh) fun σ H Q h => ?_
  obtain ⟨δ, g, pa, S, p⟩ := h
  simp only [ev] at p
  obtain ⟨δ1, g1, p1, S1, p⟩ := tE1 (r1 := .read) S p
  refine ⟨δ1, g1, p1, S1, post_mono p fun v H1 ⟨y, g2, p2, S2, _, dx, p⟩ => ?_⟩
  obtain ⟨δ3, g3, p3, S3, p⟩ := tPO1 S2 p
  refine ⟨δ3, g3, p3, S3, postG_mono p fun l _ H2 _ ⟨g4, p4, S4, st4, p⟩ => ?_⟩
  obtain ⟨δ5, g5, p5, S5, p⟩ := tPO1 S4 p
  refine ⟨δ5, g5, p5, S5, postG_mono p fun u _ H3 _ ⟨g6, p6, S6, st6, p⟩ => ?_⟩
  obtain ⟨d, rfl, p⟩ := post_dat p
  obtain ⟨z, hz, p⟩ := post_ret p
  exact ⟨p6, g6, d, z, S6.pen, (dx.step st4).step st6, hz, p⟩
/-! ### names, constants -/
theorem slotV_ok {b : Bool} {δ : Env'} {i : Nat} {σ : St} {H : Hp} {pa : Option Addr} {g : G} {Q : VK} (hr : r ≠ .own) (hb : b = r.b) (S : StOk X.K X.w HB pb σ H pa δ g) (p : post X.K X.w ex W σ H pa r (slotV b δ i g) Q) : tVar i σ H Q := by
  subst hb
  unfold slotV at p
  cases q : δ[i]? with
  | none => rw [q] at p; exact p.elim
  | some o =>
    rw [q] at p
    cases o with
    | none => exact p.elim
    | some s =>
      obtain ⟨v, hv, so⟩ := S.slot i s q
      refine ⟨v, hv, ?_⟩
      cases s with
      | val x =>
        refine p v H pa (Stp.refl S.pen) ?_ (fun e => absurd e hr)
        cases r with
        | pure => exact so
        | read => exact .inl so
        | own => exact absurd rfl hr
      | own x =>
        cases r with
        | pure => exact p.elim
        | own => exact absurd rfl hr
        | read => exact p v H pa (Stp.refl S.pen) (.inr ⟨so.1, fun a e => (so.2 a e).1⟩) (fun e => absurd e hr)
      | pen => exact p v H pa (Stp.refl S.pen) so (fun e => absurd e hr)
theorem n_var {i : Nat} {x : Str} {pos : Pos} (hr : r ≠ .own) (hN : X.N[i]? = some x) (hv : Vis X.env.scope x) (hd : (x == ("__debug__" : Str)) = false) (hcd : (x == ("__classdict__" : Str)) = false) : PE X (.Name x pos) (TX X ex W HB pb r (.var i)) := by
  refine pe_mono (pe_var hN hv hd hcd) fun σ H Q h => ?_
  obtain ⟨δ, g, pa, S, p⟩ := h
  simp only [ev] at p
  exact slotV_ok hr rfl S p
def cstE : PyData → Nat → Pos → Option Expr
  | .none, k, p => some (.Constant .none k p)
  | .bool b, k, p => some (.Constant (.bool b) k p)
  | .int i, k, p => some (.Constant (.int i) k p)
  | .str x, k, p => some (.Constant (.str x) k p)
  | _, _, _ => none
theorem n_cst {d : PyData} {x : Expr} {k : Nat} {pos : Pos} (h : cstE d k pos = some x) : PE X x (TX X ex W HB pb r (.cst d)) := by
  cases d <;> cases h
  · refine pe_mono pe_non fun σ H Q h => ?_
    obtain ⟨δ, g, pa, S, p⟩ := h
    exact okP_here (d := .none) p S.pen .none rfl
  · rename_i b
    refine pe_mono pe_bl fun σ H Q h => ?_
    obtain ⟨δ, g, pa, S, p⟩ := h
    exact okP_here (d := .bool b) p S.pen (.bool b) rfl
  · rename_i b
    refine pe_mono pe_int fun σ H Q h => ?_
    obtain ⟨δ, g, pa, S, p⟩ := h
    exact okP_here (d := .int b) p S.pen (.int b) rfl
  · rename_i b
    refine pe_mono pe_str fun σ H Q h => ?_
    obtain ⟨δ, g, pa, S, p⟩ := h
    exact okP_here (d := .str b) p S.pen (.str b) rfl
/-- a module's constant -/
structure GlobOk (X : Cx) (n : Str) (d : PyData) : Prop where
  ex : ∃ u v, X.mg n = some u ∧ RelV v u ∧ ∀ H, Rp X.K X.w H d v
  flat : mutD (.d d) = false
theorem n_glob {n : Str} {d : PyData} {pos : Pos} (hg : Gl X n) (h : GlobOk X n d) (hd : (n == ("__debug__" : Str)) = false) : PE X (.Name n pos) (TX X ex W HB pb r (.glob n d)) := by
  obtain ⟨u, v, hm, rv, rp⟩ := h.ex
  refine pe_mono (pe_glob hg hm rv hd) fun σ H Q q => ?_
  obtain ⟨δ, g, pa, S, p⟩ := q
  exact okP_here (d := d) p S.pen (rp H) h.flat
/-! ### a op b op c -/
theorem n_chn (R : Rdy X) {o p : Cop} {a b c : E} {x y z : Expr} {pos : Pos} (ha : PE X x (TX X ex W HB pb .pure a)) (hb : PE X y (TX X ex W HB pb .pure b)) (hc : PE X z (TX X ex W HB pb .pure c)) (hz : nice z = true) :
    PE X (.Compare x [copOf o, copOf p] [y, z] pos) (TX X ex W HB pb r (.chn o p a b c)) := by
  refine pe_mono (pe_chain (op_cmpD R.hu o) (op_cmpD R.hu p) ha hb hc (nice_last hz _ _)) fun σ H Q h => ?_
  obtain ⟨δ, g, pa, S, q⟩ := h
  simp only [ev] at q
  obtain ⟨δ1, g1, p1, S1, q⟩ := tE2 (r1 := .pure) (r2 := .pure) S q
  refine ⟨δ1, g1, p1, S1, post_mono q fun v H1 ⟨δ2, g2, p2, S2, q⟩ => ⟨δ2, g2, p2, S2, post_mono q fun u H2 ⟨x, y, g3, p3, S3, dx, dy, q⟩ => ?_⟩⟩
  obtain ⟨d, e, rfl, rfl, q⟩ := post_dat2 q
  obtain ⟨k, hk, q⟩ := post_ofO q
  refine ⟨p3, d, e, k, .inl dx, .inl dy, hk, k, rfl, ?_⟩
  cases k with
  | false => exact okP_here (d := .bool false) q S3.pen (.bool _) rfl
  | true =>
    rw [if_pos rfl]
    obtain ⟨δ4, g4, p4, S4, q⟩ := tE1 (r1 := .pure) S3 q
    refine ⟨δ4, g4, p4, S4, post_mono q fun v' H4 ⟨x', g5, p5, S5, st5, dz, q⟩ => ?_⟩
    obtain ⟨d', rfl, q⟩ := post_dat q
    obtain ⟨z', hz', q⟩ := post_retB q
    exact ⟨p5, e, d', z', .inl (dy.step st5), .inl dz, hz', okP_here (d := .bool z') q S5.pen (.bool _) rfl⟩
end
end Ld
namespace Ld
open PySem PySem.Spec L2 Sem
open PyProof.Rows hiding St
variable [Fs]
open PySem.AutoSeq1 (wpAny_loadPart')
theorem fm_congr {α β : Type} {f g : α → Option β} : ∀ {l : List α}, (∀ a ∈ l, f a = g a) → l.filterMap f = l.filterMap g
  | [], _ => rfl
  | a :: r, h => by
    rw [List.filterMap_cons, List.filterMap_cons, h a List.mem_cons_self, fm_congr fun b hb => h b (List.mem_cons_of_mem _ hb)]
theorem pick_back (items : Array Value) : (List.filterMap (fun k : Nat => items[((Builtin.Slice.sliceAdjust none none ((some (-1 : Int)).getD 1) (items.size : Int)).fst + (k : Int) * (some (-1 : Int)).getD 1).toNat]?)
    (List.range (Builtin.Slice.slicePlaces (Builtin.Slice.sliceAdjust none none ((some (-1 : Int)).getD 1) (items.size : Int)).fst (Builtin.Slice.sliceAdjust none none ((some (-1 : Int)).getD 1) (items.size : Int)).snd ((some (-1 : Int)).getD 1)))).toArray = items.toList.reverse.toArray := by
  have e1 : Builtin.Slice.sliceAdjust none none ((some (-1 : Int)).getD 1) (items.size : Int) = ((items.size : Int) - 1, -1) := rfl
  have e2 : Builtin.Slice.slicePlaces ((items.size : Int) - 1) (-1) ((some (-1 : Int)).getD 1) = items.size := by
    unfold Builtin.Slice.slicePlaces
    show (if (-1 : Int) > 0 then _ else if (items.size : Int) - 1 > -1 then ((items.size : Int) - 1 - -1 - 1) / (- -1) + 1 else 0).toNat = _
    rw [if_neg (by decide)]
    by_cases h : (items.size : Int) - 1 > -1
    · rw [if_pos h, show (- -1 : Int) = 1 by decide, Int.ediv_one]; omega
    · rw [if_neg h]; omega
  rw [e1]
  show (List.filterMap (fun k : Nat => items[((items.size : Int) - 1 + (k : Int) * (-1)).toNat]?) (List.range (Builtin.Slice.slicePlaces ((items.size : Int) - 1) (-1) ((some (-1 : Int)).getD 1)))).toArray = _
  rw [e2]
  have e3 := PySem.W.krv_pick items
  unfold slicePick at e3
  rw [PySem.W.krv_bounds] at e3
  have e4 : ((sliceRange ((items.size : Int) - 1) (-1) (-1)).filterMap (items[·]?)).toArray = items.toList.reverse.toArray := e3
  rw [PySem.W.krv_sliceRange, List.filterMap_map] at e4
  rw [← e4]
  refine congrArg List.toArray (fm_congr fun k hk => ?_)
  have := List.mem_range.mp hk
  show items[((items.size : Int) - 1 + (k : Int) * (-1)).toNat]? = items[items.size - 1 - k]?
  congr 1
  omega
theorem tget_rev (l sl : Addr) (items : Array Value) (n : Nat) (dd : Option Addr) (so : Array (Option Value)) (os : Obj) (t : Tok) (hz : items.size ≤ sizeLine) :
    Meets (Builtin.«tuple.__getitem__» ⟨[.ref l, .ref sl], []⟩) (fun _ R s => s.heap.get? l = some { cls := .type "tuple", dict := dd, data := .seq items n, slots := so } ∧ s.heap.get? sl = some { cls := .type "slice", data := .fields #[.none, .none, .int (-1) t] } ∧
      R (.ok (.ret (Value.ref s.heap.objs.size))) { s with heap := s.heap.push { cls := Value.type "tuple", data := Data.seq items.toList.reverse.toArray } }) :=
  .of_wp fun prog w A R s h => by
    obtain ⟨hp, g, d, tk, os⟩ := s
    obtain ⟨hl, hs, h⟩ := h
    have f1 := AutoSeq1.idx_int
    wp_walk using wpAny_loadPart' hl
    rw [pick_back]
    rw [if_neg (by rw [List.size_toArray, List.length_reverse, Array.length_toList]; omega)]
    wp_walk using wpAny_loadPart' hl
    exact ⟨_, rfl, h⟩
end Ld
namespace Ld
open PySem PySem.Spec L2
open PyProof.Rows hiding St
variable [Fs]
section
variable {X : Cx} {ex : EX} {W : WX} {HB : Hp} {pb : Option Addr} {r : Md} {pins : List (Addr × Obj)} {σ : St} {H : Hp} {s : Shared}
theorem slice_back {k : Nat} {p1 p2 p3 : Pos} {Q : Value → Shared → Prop} (I : Inv X pins σ H s)
    (h : ∀ sl t s', Inv X pins σ H s' → s'.heap.get? sl = some { cls := .type "slice", data := .fields #[.none, .none, .int (-1) t] } → Q (.ref sl) s') :
    wpAny (model X.prog X.w) X.A (eval (.Slice none none (some (.UnaryOp .USub (.Constant (.int 1) k p1) p2)) p3) X.env) Q X.xe s := by
  refine wpAny_Slice ?_
  rw [evalPart_none, evalPart_some]
  refine wpAny_pure (wpAny_pure ?_)
  refine thn ((pe_un un_neg pe_int).run pins s σ H (fun v H' => v = .int (-1) ∧ H' = H) I ⟨1, rfl, rfl, rfl⟩) fun u s' ⟨v, H', I', rv, e1, e2⟩ => ?_
  subst e1 e2
  obtain ⟨t, rfl⟩ := rv
  exact h _ t _ (I'.kept (t' := s'.toks) fun b o q => Heap.get?_push_of_some _ q) (Heap.get?_push_size _ rfl)
theorem n_rev {a : E} {x : Expr} {k : Nat} {p1 p2 p3 pos : Pos} (ha : PE X x (TX X ex W HB pb .read a)) :
    PE X (.Subscript x (.Slice none none (some (.UnaryOp .USub (.Constant (.int 1) k p1) p2)) p3) pos) (TX X ex W HB pb r (.rev a)) := by
  refine ⟨fun pins s σ H Q I h => ?_⟩
  obtain ⟨δ, g, pa, S, p⟩ := h
  simp only [ev] at p
  refine Subscript_ (thn (ha.run pins s σ H _ I (tE1 (r1 := .read) S p)) fun v s1 ⟨y, H1, I1, r1, d, g1, p1, S1, _, dx, q⟩ => ?_)
  obtain ⟨d, rfl, q⟩ := post_dat q
  obtain ⟨z, hz, q⟩ := post_ret q
  refine slice_back I1 fun sl t s2 I2 hs => ?_
  cases d <;> try (simp only [revD, reduceCtorEq] at hz; done)
  case tuple xs =>
    cases hz
    obtain ⟨l, vs, rfl, sa, ra⟩ := rd_tup dx
    cases r1
    obtain ⟨its, rv, ⟨⟨cls, dd, data, slo⟩, ho, hc, n, hd⟩, hsz⟩ := I2.tuple sa
    simp only at hc hd
    subst hc hd
    refine tail_any (ops := [.ref l, .ref sl]) ⟨_, ho, rfl⟩ slot_tuple_getitem.lookup ?_ (by with_unfolding_all rfl)
    refine wpAny_getItem_slot ⟨_, ho, rfl⟩ (by decide) slot_tuple_getitem (call_meets slot_tuple_getitem ⟨_, ho, rfl⟩ entry_tuple_getitem (args_tuple_getitem _ _) (tget_rev l sl its.toArray n dd slo { cls := .none } t (by rw [List.size_toArray, ← rv.length]; exact hsz)) ⟨ho, hs, ?_⟩)
    have I3 : Inv X pins σ (upd H1 s2.heap.objs.size (.tup vs.reverse)) { s2 with heap := s2.heap.push { cls := .type "tuple", data := .seq its.reverse.toArray } } :=
      I2.laid (t' := s2.toks) (fun b o e => Heap.get?_push_of_some _ e) (Nat.le_refl _) (show ObjOk X.prog X.w _ _ _ (.tup vs.reverse) from ⟨by rw [List.length_reverse]; exact hsz, _, rv.reverse, IsTup.new _ _⟩)
    exact fin_tup I3 (I2.hok.fresh (Nat.le_refl _)) S1.pen ra.reverse q
  case list xs =>
    cases hz
    obtain ⟨l, vs, rfl, sa, ra, _⟩ := rd_lst dx
    cases r1
    obtain ⟨its, rv, pl, hsz⟩ := I2.list sa
    refine tail_any (ops := [.ref l, .ref sl]) pl.isList.typeIs slot_list_getitem.lookup ?_ (by with_unfolding_all rfl)
    refine wpAny_getItem_list_slice (lo := none) (hi := none) (st := some (-1)) pl.isList ⟨_, hs, rfl, rfl⟩ .none .none (.int _ t) (by decide) ?_ (by rw [List.size_toArray, ← rv.length]; exact hsz)
    rw [PySem.W.krv_pick]
    have I3 : Inv X pins σ (upd H1 s2.heap.objs.size (.lst vs.reverse)) { s2 with heap := s2.heap.push { cls := .type "list", data := .seq its.reverse.toArray } } :=
      I2.laid (t' := s2.toks) (fun b o e => Heap.get?_push_of_some _ e) (Nat.le_refl _) (show ObjOk X.prog X.w _ _ _ (.lst vs.reverse) from ⟨by rw [List.length_reverse]; exact hsz, _, 0, rv.reverse, Heap.get?_push_size _ rfl⟩)
    exact fin_lst I3 (I2.hok.fresh (Nat.le_refl _)) S1.pen ra.reverse q
end
end Ld
/-! text LdL -/
set_option Elab.async false
set_option linter.all false
set_option maxRecDepth 100000
set_option maxHeartbeats 4000000
namespace PySem
open Sem (wp)
open AutoSeq1 (wpAny_loadPart')
/-- enumerate(v), v told by its first iterator -/
theorem Ld_enum_new {v : Value} {o : Obj} {H : Heap → Prop} (B : Begins v o H) :
    Meets (Builtin.«enumerate.__new__» ⟨[.type "enumerate", v], []⟩) (fun _ R s => H s.heap ∧ R (.ok (.ret (.ref (s.heap.push o).objs.size))) { s with heap := (s.heap.push o).push { cls := .type "enumerate", data := .fields #[.none, .bool false, .ref s.heap.objs.size, rawInt 0, .none, .none] } }) := by
  refine .of_wp fun prog w A R ⟨hp, g, d, tk, os⟩ ⟨h1, h⟩ => ?_
  have sub := sub_enumerate
  have bi : ∀ {A' : Around} {E : Value → Shared → Prop} {Q : Value → Shared → Prop}, Q (.ref hp.objs.size) ⟨hp.push o, g, d, tk, os⟩ → wpAny (model prog w) A' (pyIter v) Q E ⟨hp, g, d, tk, os⟩ := fun q => B.iter prog w _ _ ⟨hp, g, d, tk, os⟩ _ h1 q
  wp_walk using bi
  refine wpAny_stack_any fun _ => wpAny_pure ?_
  split <;> first
    | (rename_i c _ _ _ _ _
       cases (c == Value.type "enumerate") <;> (wp_walk using bi; exact ⟨_, rfl, h⟩))
    | (wp_walk using bi; exact ⟨_, rfl, h⟩)
theorem Ld_enum_call {prog : Program} {w : World} {A : Around} {E : Value → Shared → Prop} {s : Shared} {v : Value} {o : Obj} {H : Heap → Prop} {Q : Value → Shared → Prop} (B : Begins v o H) (h1 : H s.heap)
    (h : ∀ h', IsEnum h' (s.heap.objs.size + 1) s.heap.objs.size 0 .none → h'.get? s.heap.objs.size = some o → (∀ b o, s.heap.get? b = some o → h'.get? b = some o) → Q (.ref (s.heap.objs.size + 1)) { s with heap := h' }) :
    wpAny (model prog w) A (call (.type "enumerate") [v]) Q E s := by
  have z1 : (s.heap.push o).objs.size = s.heap.objs.size + 1 := Heap.size_push ..
  have z2 := Heap.get?_push_size (s.heap.push o) (o := { cls := .type "enumerate", data := .fields #[.none, .bool false, .ref s.heap.objs.size, rawInt 0, .none, .none] }) rfl
  rw [z1] at z2
  refine callType_new F.called_enumerate (by decide) (F.typeCall_enumerate_1 _) (F.newCall_enumerate_1 _) (fun obj => F.args_object_init_2 obj _) F.entry_enumerate_new (Ld_enum_new B) ⟨h1, ?_⟩
  show _ ∧ _
  rw [z1]
  exact ⟨⟨_, z2, rfl⟩, h _ z2 (Heap.get?_push_of_some _ (Heap.get?_push_size _ B.free)) fun b o x => Heap.get?_push_of_some _ (Heap.get?_push_of_some _ x)⟩
end PySem
namespace Ld
open PySem PySem.Spec L2
open PyProof.Rows hiding St
variable [Fs]

/-- the tuple at a, each item in a new pair -/
def Iet (K : PySem.W.Frag) (a : Addr) : It :=
  ⟨fun i H => ∃ (xs : List V) (x : V), SqT K H a xs ∧ xs[i]? = some x, fun i H v H' => ∃ T x, v = .ref T ∧ H T = none ∧ H' = upd H T (.tup [.int (i : Nat), x]) ∧ ∀ xs, SqT K H a xs → xs[i]? = some x, fun i H => ∃ xs : List V, SqT K H a xs ∧ xs.length = i⟩
theorem turn_enumT {P : Program} {w : World} {K : PySem.W.Frag} {elts : List Expr} {kk : Nat} {tpos : Pos} (a e it : Addr) :
    Turn P w K (.Tuple elts kk tpos) (Iet K a) [e, it] e (fun i h => (∃ old, IsEnum h e it ((i : Nat) : Int) old) ∧ h.IsTupleIter it a i ∧ e ≠ it ∧ a ≠ it ∧ a ≠ e) where
  mem := by simp
  obj := fun i h st b hb => by
    obtain ⟨⟨old, he⟩, ⟨o, ho, hc, hd⟩, _⟩ := st
    rcases (by simpa using hb : b = e ∨ b = it) with rfl | rfl
    · exact ⟨_, he, fun v q => nomatch q⟩
    · exact ⟨o, ho, fun v q => by rw [hd] at q; cases q⟩
  keep := fun i h h' st k => let ⟨⟨old, he⟩, hi, hne⟩ := st; ⟨⟨old, k e (by simp) _ he⟩, hi.at fun o q => k it (by simp) o q, hne⟩
  item := by
    intro X hP hw hK hc i pins s σ H E I hf st hg
    subst hP hw hK
    obtain ⟨⟨old, he⟩, hit, hne, hai, hae⟩ := st
    obtain ⟨xs, x, hq, hx⟩ := hg
    obtain ⟨its, rv, p, hz⟩ := I.tuple hq
    obtain ⟨u, hu, ru⟩ := rv.get hx
    have hel : e < s.heap.objs.size := Heap.lt_size he
    have hil : it < s.heap.objs.size := by obtain ⟨_, q, _⟩ := hit; exact Heap.lt_size q
    have hi : i < its.toArray.size := by
      rw [List.size_toArray, ← rv.length]
      exact (List.getElem?_eq_some_iff.mp hx).1
    refine wpAny_pyNext_enum_itemD (Draws.tuple (A := X.A.in1) (I.ok.hd hc) it a hai its.toArray) he ⟨hit, p⟩ hi hne (by simp [hne, Ne.symm hae]) fun z h' tk hz2 ho st' hT hsz hk => ?_
    obtain ⟨hit', _⟩ := st'
    have ez : z = u := by
      have e1 : its.toArray[i]? = some z := hz2
      rw [List.getElem?_toArray, hu] at e1
      exact (Option.some.inj e1).symm
    subst ez
    refine ⟨_, rfl, wpAny_letOwnedTupleGo_enum (s := { s with heap := h', toks := tk + 1 }) ho fun h'' he' sb => ?_⟩
    have hT2 : h''.get? s.heap.objs.size = some { cls := .type "tuple", data := .seq #[.int i tk, z] } := (sb.2 _ (Nat.ne_of_gt hel)).trans hT
    have new : ObjOk X.prog X.w (upd H s.heap.objs.size (.tup [.int (i : Nat), x])) h'' s.heap.objs.size (.tup [.int (i : Nat), x]) :=
      ⟨by show 2 ≤ sizeLine; decide, [.int i tk, z], .cons ⟨_, rfl⟩ (.cons ru .nil), ⟨_, hT2, rfl, _, rfl⟩⟩
    have I1 : Inv X pins σ (upd H s.heap.objs.size (.tup [.int (i : Nat), x])) { s with heap := h'', toks := tk + 1 } :=
      I.turnedNew (ch := [e, it]) (fun b ob hb q => (sb.2 b (fun z => hb (by simp [z]))).trans (hk b ob (fun z => hb (by simp [z])) (fun z => hb (by simp [z])) q)) hf (Nat.le_refl _) new
    refine ⟨.ref s.heap.objs.size, _, I1, rfl, ⟨_, x, rfl, I.hok.fresh (Nat.le_refl _), rfl, fun ys hy => by rw [I.tuple_inj hy hq]; exact hx⟩, ⟨⟨z, ?_⟩, hit'.at fun o q => (sb.2 it (Ne.symm hne)).trans q, hne, hai, hae⟩, fun b hb => ?_⟩
    · rw [show ((i + 1 : Nat) : Int) = (i : Int) + 1 by omega]; exact he'
    · have hb' : b < s.heap.objs.size := by
        rcases (by simpa using hb : b = e ∨ b = it) with rfl | rfl
        · exact hel
        · exact hil
      rw [upd_ne (Nat.ne_of_lt hb')]
      exact (hf b hb).1
  done := by
    intro X hP hw hK hc i pins s σ H E I hf st hg
    subst hP hw hK
    obtain ⟨⟨old, he⟩, hit, hne, hai, hae⟩ := st
    obtain ⟨xs, hq, hx⟩ := hg
    obtain ⟨its, rv, p, hz⟩ := I.tuple hq
    obtain ⟨f0, f1, f2, f3, f4, f5⟩ := hf it (by simp)
    have hl : its.toArray.size = i := by rw [List.size_toArray, ← rv.length, hx]
    have D := Draws.tuple (prog := X.prog) (w := X.w) (A := X.A.in1) (I.ok.hd hc) it a hai its.toArray
    rw [hl] at D
    exact wpAny_pyNext_enum_endD D he ⟨hit, p⟩ fun h' eb => ⟨rfl, I.turned (t' := s.toks) (fun b o hb q => eb b o hb q) f0 f1 f3 f4 f5⟩
  self := fun A i s Q E st h => let ⟨⟨_, he⟩, _⟩ := st; wpAny_pyIter_enum he h

/-! ### what a walk over data gives -/
/-- J goes through the data ds where Src stands -/
def Wk (K : PySem.W.Frag) (w : World) (J : It) (ds : List PyData) (Src : Hp → Option Addr → Prop) : Prop :=
  ds.length ≤ sizeLine ∧ (∀ H pa, Src H pa → J.stop ds.length H) ∧ ∀ i d H pa, ds[i]? = some d → Src H pa → J.go i H ∧ ∀ v H', J.yld i H v H' → (H' = H ∨ ∃ p xs, H p = none ∧ H' = upd H p (.tup xs)) ∧ Rp K w H' d v
/-- .. which stands on -/
def Keep (K : PySem.W.Frag) (w : World) (r : Md) (Src : Hp → Option Addr → Prop) : Prop :=
  (∀ H p H' p' g', Stp K w H p H' p' g' → Src H p → Src H' p') ∧ (r = .pure → ∀ H p H' p', Kp H H' → Src H p → Src H' p')
def tI (K : PySem.W.Frag) (w : World) (ex : EX) (W : WX) (HB : Hp) (pb : Option Addr) (r : Md) (it : E) : TI := fun σ H R => ∃ δ g pa, StOk K w HB pb σ H pa δ g ∧
  postG K w ex W σ H pa (itmM (ev r.b it δ) g) fun ds _ H1 p1 => ∀ J Src, Wk K w J ds Src → Keep K w r Src → Src H1 p1 → R J H1
section
variable {X : Cx} {ex : EX} {W : WX} {HB : Hp} {pb : Option Addr} {r : Md} {σ : St} {H : Hp} {pa : Option Addr} {g : G} {δ : Env'} {Q : VK} {tg : Expr}
/-- a list that is read -/
def SrcL (K : PySem.W.Frag) (w : World) (r : Md) (ds : List PyData) (a : Addr) (H : Hp) (pa : Option Addr) : Prop := DvOk r K w H pa (.d (.list ds)) (.ref a)
theorem keep_dv {d : PyData} {v : V} : Keep X.K X.w r fun H pa => DvOk r X.K X.w H pa (.d d) v :=
  ⟨fun H p H' p' g' st h => h.step st, fun e H p H' p' k h => by subst e; exact Rp.kp k h⟩
theorem toRead {K : PySem.W.Frag} {w : World} {x : DV} {v : V} (hr : r ≠ .own) (h : DvOk r K w H pa x v) : DvOk .read K w H pa x v := by
  cases x with
  | pen => exact h
  | d d =>
    cases r with
    | pure => exact .inl h
    | read => exact h
    | own => exact absurd rfl hr
theorem wk_list {ds : List PyData} {a : Addr} (hz : ds.length ≤ sizeLine) (hr : r ≠ .own) : Wk X.K X.w (Itl X.K a) ds fun H pa => DvOk r X.K X.w H pa (.d (.list ds)) (.ref a) := by
  refine ⟨hz, fun H pa h => ?_, fun i d H pa hd h => ?_⟩
  · obtain ⟨b, vs, e, sq, ra, _⟩ := rd_lst (toRead hr h)
    cases e
    exact ⟨vs, sq, by rw [ra.length]; exact Nat.le_refl _⟩
  · obtain ⟨b, vs, e, sq, ra, _⟩ := rd_lst (toRead hr h)
    cases e
    obtain ⟨v, hv, rp⟩ := ra.get hd
    refine ⟨⟨vs, v, sq, hv⟩, fun u H' ⟨e, hy⟩ => ?_⟩
    subst e
    have := hy vs sq
    rw [hv] at this
    cases this
    exact ⟨.inl rfl, rp⟩
theorem wk_tup {ds : List PyData} {a : Addr} (hz : ds.length ≤ sizeLine) (hr : r ≠ .own) : Wk X.K X.w (Itt X.K a) ds fun H pa => DvOk r X.K X.w H pa (.d (.tuple ds)) (.ref a) := by
  refine ⟨hz, fun H pa h => ?_, fun i d H pa hd h => ?_⟩
  · obtain ⟨b, vs, e, sq, ra⟩ := rd_tup (toRead hr h)
    cases e
    exact ⟨vs, sq, by rw [ra.length]; exact Nat.le_refl _⟩
  · obtain ⟨b, vs, e, sq, ra⟩ := rd_tup (toRead hr h)
    cases e
    obtain ⟨v, hv, rp⟩ := ra.get hd
    refine ⟨⟨vs, v, sq, hv⟩, fun u H' ⟨e, hy⟩ => ?_⟩
    subst e
    have := hy vs sq
    rw [hv] at this
    cases this
    exact ⟨.inl rfl, rp⟩
theorem enumD_len : ∀ (n : Nat) (ds : List PyData), (enumD n ds).length = ds.length
  | _, [] => rfl
  | n, d :: ds => by
    show (enumD (n + 1) ds).length + 1 = ds.length + 1
    rw [enumD_len]
theorem enumD_at : ∀ (n i : Nat) (ds : List PyData) {e : PyData}, (enumD n ds)[i]? = some e → ∃ d, ds[i]? = some d ∧ e = .tuple [.int ((n + i : Nat) : Int), d]
  | _, _, [], _, h => by simp [enumD] at h
  | n, 0, d :: ds, e, h => by
    simp [enumD] at h
    exact ⟨d, rfl, h.symm⟩
  | n, i + 1, d :: ds, e, h => by
    have h : (enumD (n + 1) ds)[i]? = some e := by simpa [enumD] using h
    obtain ⟨d', h1, h2⟩ := enumD_at (n + 1) i ds h
    refine ⟨d', by simpa using h1, ?_⟩
    rw [h2, show n + 1 + i = n + (i + 1) by omega]
theorem wk_enumL {ds : List PyData} {a : Addr} (hz : ds.length ≤ sizeLine) (hr : r ≠ .own) : Wk X.K X.w (Ite X.K a) (enumD 0 ds) fun H pa => DvOk r X.K X.w H pa (.d (.list ds)) (.ref a) := by
  refine ⟨by rw [enumD_len]; exact hz, fun H pa h => ?_, fun i d H pa hd h => ?_⟩
  · obtain ⟨b, vs, e, sq, ra, _⟩ := rd_lst (toRead hr h)
    cases e
    exact ⟨vs, sq, by rw [enumD_len, ra.length]; exact Nat.le_refl _⟩
  · obtain ⟨b, vs, e, sq, ra, _⟩ := rd_lst (toRead hr h)
    cases e
    obtain ⟨d', h1, rfl⟩ := enumD_at 0 i ds hd
    obtain ⟨v, hv, rp⟩ := ra.get h1
    refine ⟨⟨vs, v, sq, hv⟩, fun u H' ⟨T, x, e1, n, e2, hy⟩ => ?_⟩
    subst e1 e2
    have := hy vs sq
    rw [hv] at this
    cases this
    refine ⟨.inr ⟨T, _, n, rfl⟩, .tup (.inl (.inl upd_same)) (.cons ?_ (.one (rp.kp (Kp.new n))))⟩
    rw [Nat.zero_add]
    exact .int _
theorem wk_enumT {ds : List PyData} {a : Addr} (hz : ds.length ≤ sizeLine) (hr : r ≠ .own) : Wk X.K X.w (Iet X.K a) (enumD 0 ds) fun H pa => DvOk r X.K X.w H pa (.d (.tuple ds)) (.ref a) := by
  refine ⟨by rw [enumD_len]; exact hz, fun H pa h => ?_, fun i d H pa hd h => ?_⟩
  · obtain ⟨b, vs, e, sq, ra⟩ := rd_tup (toRead hr h)
    cases e
    exact ⟨vs, sq, by rw [enumD_len, ra.length]⟩
  · obtain ⟨b, vs, e, sq, ra⟩ := rd_tup (toRead hr h)
    cases e
    obtain ⟨d', h1, rfl⟩ := enumD_at 0 i ds hd
    obtain ⟨v, hv, rp⟩ := ra.get h1
    refine ⟨⟨vs, v, sq, hv⟩, fun u H' ⟨T, x, e1, n, e2, hy⟩ => ?_⟩
    subst e1 e2
    have := hy vs sq
    rw [hv] at this
    cases this
    refine ⟨.inr ⟨T, _, n, rfl⟩, .tup (.inl (.inl upd_same)) (.cons ?_ (.one (rp.kp (Kp.new n))))⟩
    rw [Nat.zero_add]
    exact .int _
theorem rangeD_len : ∀ (lo : Int) (n : Nat), (rangeD lo n).length = n
  | _, 0 => rfl
  | lo, n + 1 => by
    show (rangeD (lo + 1) n).length + 1 = n + 1
    rw [rangeD_len]
theorem rangeD_at : ∀ (n i : Nat) (lo : Int) {e : PyData}, (rangeD lo n)[i]? = some e → i < n ∧ e = .int (lo + i)
  | 0, _, _, _, h => by simp [rangeD] at h
  | n + 1, 0, lo, e, h => by
    simp [rangeD] at h
    exact ⟨Nat.succ_pos _, by rw [← h]; simp⟩
  | n + 1, i + 1, lo, e, h => by
    have h : (rangeD (lo + 1) n)[i]? = some e := by simpa [rangeD] using h
    obtain ⟨h1, h2⟩ := rangeD_at n i (lo + 1) h
    refine ⟨Nat.succ_lt_succ h1, ?_⟩
    rw [h2, show lo + 1 + (i : Int) = lo + ((i + 1 : Nat) : Int) by omega]
theorem wk_range {lo : Int} {n : Nat} (hz : n ≤ sizeLine) : Wk X.K X.w (Itr lo n) (rangeD lo n) fun _ _ => True := by
  refine ⟨by rw [rangeD_len]; exact hz, fun H pa _ => by show n ≤ _; rw [rangeD_len]; exact Nat.le_refl _, fun i d H pa hd _ => ?_⟩
  obtain ⟨h1, rfl⟩ := rangeD_at n i lo hd
  exact ⟨h1, fun u H' ⟨e1, e2⟩ => ⟨.inl e1, by subst e2; exact .int _⟩⟩
end
end Ld
/-! text LdM -/
set_option Elab.async false
set_option linter.all false
set_option maxRecDepth 100000
set_option maxHeartbeats 4000000
namespace Ld
open PySem PySem.Spec L2
open PyProof.Rows hiding St
variable [Fs]

section
variable {X : Cx} {ex : EX} {W : WX} {HB : Hp} {pb : Option Addr} {r : Md} {σ : St} {H : Hp} {pa : Option Addr} {g : G} {δ : Env'} {Q : VK} {tg : Expr}
/-- what is walked, by its value -/
theorem itm_cases {m : M DV} {P : List PyData → G → Hp → Option Addr → Prop} (h : postG X.K X.w ex W σ H pa (itmM m g) P) :
    (∃ ds g', (m g = .ok (.d (.list ds)) g' ∨ m g = .ok (.d (.tuple ds)) g') ∧ ∀ H' pa', Stp X.K X.w H pa H' pa' g' → P ds g' H' pa') ∨ ∃ c fs g', m g = .exc c fs g' ∧ ∀ C d H' pa', Stp X.K X.w H pa H' pa' g' → ex c fs H' C d → W C d σ H' := by
  unfold itmM bnd at h
  cases q : m g with
  | no => rw [q] at h; exact h.elim
  | exc c fs g' => rw [q] at h; exact .inr ⟨c, fs, g', rfl, h⟩
  | ok x g' =>
    rw [q] at h
    cases x with
    | pen => exact h.elim
    | d d =>
      cases d <;> try exact h.elim
      · exact .inl ⟨_, g', .inl rfl, h⟩
      · exact .inl ⟨_, g', .inr rfl, h⟩
/-- the list at a is walked -/
theorem iter_lst {pins : List (Addr × Obj)} {s : Shared} {R : It → Hp → Prop} {a : Addr} {vs : List V} (I : Inv X pins σ H s) (hq : SqL X.K H a vs) (q : vs.length ≤ sizeLine → R (Itl X.K a) H) : wpAny (model X.prog X.w) X.A (pyIter (.ref a)) (PIE X pins σ tg R) X.xe s := by
  obtain ⟨its, rv, p, hz⟩ := I.list hq
  exact wpAny_pyIter_list p.isList (pi_one (tk := s.toks) I _ (turn_list a _) ⟨_, Heap.get?_push_size _ rfl, rfl, rfl⟩ (q hz))
theorem iter_tup {pins : List (Addr × Obj)} {s : Shared} {R : It → Hp → Prop} {a : Addr} {vs : List V} (I : Inv X pins σ H s) (hq : SqT X.K H a vs) (q : vs.length ≤ sizeLine → R (Itt X.K a) H) : wpAny (model X.prog X.w) X.A (pyIter (.ref a)) (PIE X pins σ tg R) X.xe s := by
  obtain ⟨its, rv, p, hz⟩ := I.tuple hq
  exact wpAny_pyIter_tuple (show s.heap.IsTuple a its.toArray from p) (pi_one (tk := s.toks) I _ (turn_tuple a _) ⟨_, Heap.get?_push_size _ rfl, rfl, rfl⟩ (q hz))
/-- what is walked has come -/
def itR (K : PySem.W.Frag) (w : World) (r : Md) (P : List PyData → List PyData) (R : It → Hp → Prop) : VK := fun v H1 => ∃ ds g1 p1, PenOk K w H1 p1 g1 ∧ (DvOk r K w H1 p1 (.d (.list ds)) v ∨ DvOk r K w H1 p1 (.d (.tuple ds)) v) ∧ (∀ J Src, Wk K w J (P ds) Src → Keep K w r Src → Src H1 p1 → R J H1)
theorem itm_post {e : E} {P : List PyData → List PyData} {R : It → Hp → Prop} (S : StOk X.K X.w HB pb σ H pa δ g) (p : postG X.K X.w ex W σ H pa (itmM (ev r.b e δ) g) fun ds _ H1 p1 => ∀ J Src, Wk X.K X.w J (P ds) Src → Keep X.K X.w r Src → Src H1 p1 → R J H1) :
    TX X ex W HB pb r e σ H (itR X.K X.w r P R) := by
  refine ⟨δ, g, pa, S, ?_⟩
  rcases itm_cases p with ⟨ds, g', hd | hd, p⟩ | ⟨c, fs, g', hd, p⟩
  · rw [hd]
    exact fun v H1 p1 st dv _ => ⟨ds, g', p1, st.pen, .inl dv, p H1 p1 st⟩
  · rw [hd]
    exact fun v H1 p1 st dv _ => ⟨ds, g', p1, st.pen, .inr dv, p H1 p1 st⟩
  · rw [hd]
    exact p
/-- a list or a tuple that is read, walked -/
theorem pi_data {it : E} {x : Expr} (hr : r ≠ .own) (ha : PE X x (TX X ex W HB pb r it)) : PI X tg x (tI X.K X.w ex W HB pb r it) := by
  refine ⟨fun pins s σ H R I h => ?_⟩
  obtain ⟨δ, g, pa, S, p⟩ := h
  refine thn (ha.run pins s σ H _ I (itm_post (P := fun ds => ds) S p)) fun u s1 ⟨v, H1, I1, r1, ds, g1, p1, pen, dv, q⟩ => ?_
  rcases dv with dv | dv
  · obtain ⟨a, vs, rfl, sq, ra, _⟩ := rd_lst (toRead hr dv)
    cases r1
    exact iter_lst I1 sq fun hz => q _ _ (wk_list (by rw [ra.length]; exact hz) hr) keep_dv dv
  · obtain ⟨a, vs, rfl, sq, ra⟩ := rd_tup (toRead hr dv)
    cases r1
    exact iter_tup I1 sq fun hz => q _ _ (wk_tup (by rw [ra.length]; exact hz) hr) keep_dv dv
theorem keep_true : Keep X.K X.w r fun _ _ => True := ⟨fun _ _ _ _ _ _ _ => trivial, fun _ _ _ _ _ _ _ => trivial⟩
theorem mthL {b : Bool} {x z : List PyData} (h : (match b with | true => some x | false => none) = some z) : b = true ∧ x = z := by
  cases b with
  | true => exact ⟨rfl, Option.some.inj h⟩
  | false => cases h
/-- an int, by its mode -/
theorem rp_int {K : PySem.W.Frag} {w : World} {j : Int} {v : V} (h : DvOk .pure K w H pa (.d (.int j)) v) : v = .int j := by cases (show Rp K w H (.int j) v from h); rfl
/-- optM in a row -/
theorem opt_in {α : Type} {m : M DV} {f : Option Int → M α} {P : α → G → Hp → Option Addr → Prop} (h : postG X.K X.w ex W σ H pa (bnd (bnd m intO) f g) P) :
    post X.K X.w ex W σ H pa .pure (m g) fun v H1 => ∃ i g1 p1, v = .int i ∧ Stp X.K X.w H pa H1 p1 g1 ∧ postG X.K X.w ex W σ H1 p1 (f (some i) g1) P := by
  unfold bnd at h
  cases q : m g with
  | no => rw [q] at h; exact h.elim
  | exc c fs g' => rw [q] at h; exact h
  | ok x g' =>
    rw [q] at h
    cases x with
    | pen => exact h.elim
    | d d =>
      cases d <;> try exact h.elim
      rename_i i
      intro v H1 p1 st dv _
      exact ⟨i, g', p1, rp_int dv, st, postG_step st h⟩
theorem bnd_assoc {α β γ : Type} (m : M α) (f : α → M β) (k : β → M γ) : bnd (bnd m f) k = bnd m fun x => bnd (f x) k := by
  funext g
  unfold bnd
  cases m g <;> rfl
theorem bnd_rt {α β : Type} (x : α) (f : α → M β) : bnd (rt x) f = f x := rfl
theorem itm_list {α : Type} {m : M α} {f : α → Option (List PyData)} : itmM (bnd m fun x => bnd (ofO (f x)) fun ys => rt (.d (.list ys))) = bnd m fun x => ofO (f x) := by
  funext g
  unfold itmM bnd
  cases m g with
  | ok x g' =>
    simp only
    cases f x <;> rfl
  | exc c fs g' => rfl
  | no => rfl
theorem pi_rng1 {e : E} {x : Expr} {p pos : Pos} (hg : Gl X "range") (hm : X.mg "range" = none) (ha : PE X x (TX X ex W HB pb .pure e)) (hx : nice x = true) (he : e ≠ .omit) :
    PI X tg (.Call (.Name "range" p) [x] [] pos) (tI X.K X.w ex W HB pb r (.rng .omit e)) := by
  have s1 := nice_star hx [] X.env
  refine ⟨fun pins s σ H R I h => (pi_range1 hg hm (pa_cons ha pa_nil s1) s1).run pins s σ H R I ?_⟩
  obtain ⟨δ, g, pa, S, p⟩ := h
  refine ⟨δ, g, pa, S, ?_⟩
  simp only [ev, optM_ne he] at p
  have e1 : itmM (bnd (optM E.omit no) fun l => bnd (bnd (ev false e δ) intO) fun h => bnd (ofO (rngD l h)) fun ys => rt (.d (.list ys))) = bnd (bnd (ev false e δ) intO) fun h => ofO (rngD none h) := itm_list (m := bnd (ev false e δ) intO) (f := rngD none)
  rw [e1] at p
  refine post_mono (opt_in p) fun v H1 ⟨j, g1, p1, e1, st, q⟩ => ?_
  subst e1
  cases hy : rngD none (some j) with
  | none => rw [hy] at q; exact q.elim
  | some ys =>
    rw [hy] at q
    obtain ⟨q2, rfl⟩ := mthL (show (match decide (-1000000000 < j) && decide (j ≤ (maxLen : Int)) with | true => some (rangeD 0 j.toNat) | false => none) = some ys from hy)
    simp only [Bool.and_eq_true, decide_eq_true_eq] at q2
    have hm : (maxLen : Int) = 10000000 := rfl
    exact ⟨j, rfl, by omega, by omega, q H1 p1 (Stp.refl st.pen) _ _ (wk_range (by have := maxLen_le; have : maxLen = 10000000 := rfl; omega)) keep_true trivial⟩
theorem pi_rng2 {e d : E} {x y : Expr} {p pos : Pos} (hg : Gl X "range") (hm : X.mg "range" = none) (ha : PE X x (TX X ex W HB pb .pure e)) (hb : PE X y (TX X ex W HB pb .pure d)) (hx : nice x = true) (hy : nice y = true) (he : e ≠ .omit) (hd : d ≠ .omit) :
    PI X tg (.Call (.Name "range" p) [x, y] [] pos) (tI X.K X.w ex W HB pb r (.rng e d)) := by
  have s2 := nice_star hy [] X.env
  have s1 := nice_star hx [y] X.env
  refine ⟨fun pins s σ H R I h => (pi_range2 hg hm (pa_cons ha (pa_cons hb pa_nil s2) s1) (by rw [s1, s2]; rfl) s2).run pins s σ H R I ?_⟩
  obtain ⟨δ, g, pa, S, p⟩ := h
  refine ⟨δ, g, pa, S, ?_⟩
  simp only [ev, optM_ne he, optM_ne hd] at p
  have e1 : itmM (bnd (bnd (ev false e δ) intO) fun l => bnd (bnd (ev false d δ) intO) fun h => bnd (ofO (rngD l h)) fun ys => rt (.d (.list ys))) = bnd (bnd (ev false e δ) intO) fun l => bnd (bnd (ev false d δ) intO) fun h => ofO (rngD l h) := by
    have e2 := itm_list (m := bnd (bnd (ev false e δ) intO) fun l => bnd (bnd (ev false d δ) intO) fun h => rt (l, h)) (f := fun x => rngD x.1 x.2)
    simp only [bnd_assoc, bnd_rt] at e2 ⊢
    exact e2
  rw [e1] at p
  refine post_mono (opt_in p) fun v H1 ⟨i, g1, p1, e1, st, q⟩ => ?_
  subst e1
  refine ⟨δ, g1, p1, S.step st, post_mono (opt_in q) fun v2 H2 ⟨j, g2, p2, e2, st2, q⟩ => ?_⟩
  subst e2
  cases hy : rngD (some i) (some j) with
  | none => rw [hy] at q; exact q.elim
  | some ys =>
    rw [hy] at q
    obtain ⟨q2, rfl⟩ := mthL (show (match decide (-1000000000 < i) && (decide (i < 1000000000) && (decide (j < 1000000000) && (decide (-1000000000 < j) && decide (j - i ≤ (maxLen : Int))))) with | true => some (rangeD i (j - i).toNat) | false => none) = some ys from hy)
    simp only [Bool.and_eq_true, decide_eq_true_eq] at q2
    exact ⟨i, j, rfl, by omega, q H2 p2 (Stp.refl st2.pen) _ _ (wk_range (by have := maxLen_le; have : maxLen = 10000000 := rfl; omega)) keep_true trivial⟩
/-! ### enumerate -/
/-- the tuple at a is walked in pairs -/
theorem enumT_it {pins : List (Addr × Obj)} {s : Shared} {R : It → Hp → Prop} {elts : List Expr} {kk : Nat} {tpos : Pos} {a : Addr} {vs : List V} (I : Inv X pins σ H s) (hq : SqT X.K H a vs) (q : vs.length ≤ sizeLine → R (Iet X.K a) H) :
    wpAny (model X.prog X.w) X.A (call (.type "enumerate") [.ref a]) (fun v s1 => wpAny (model X.prog X.w) X.A (pyIter v) (PIE X pins σ (.Tuple elts kk tpos) R) X.xe s1) X.xe s := by
  obtain ⟨its, rv, p', hz⟩ := I.tuple hq
  have hlt : a < s.heap.objs.size := by obtain ⟨_, y, _⟩ := p'; exact Heap.lt_size y
  refine Ld_enum_call (begins_tuple a its.toArray) p' fun h' he ho hk => wpAny_pyIter_enum he ?_
  refine ⟨s.heap.objs.size + 1, [s.heap.objs.size + 1, s.heap.objs.size], _, _, H, rfl, I.kept (t' := s.toks) hk, turn_enumT a (s.heap.objs.size + 1) s.heap.objs.size, ⟨⟨.none, he⟩, ⟨_, ho, rfl, rfl⟩, Nat.succ_ne_self _, Nat.ne_of_lt hlt, Nat.ne_of_lt (Nat.lt_succ_of_lt hlt)⟩, fun b hb => ?_, q hz⟩
  have hle : s.heap.objs.size ≤ b := by
    rcases (by simpa using hb : b = s.heap.objs.size + 1 ∨ b = s.heap.objs.size) with z | z
    · rw [z]; exact Nat.le_succ _
    · rw [z]; exact Nat.le_refl _
  exact I.fpOk hle (I.hok.fresh hle)
theorem enumL_it {pins : List (Addr × Obj)} {s : Shared} {R : It → Hp → Prop} {elts : List Expr} {kk : Nat} {tpos : Pos} {a : Addr} {vs : List V} (I : Inv X pins σ H s) (hq : SqL X.K H a vs) (q : vs.length ≤ sizeLine → R (Ite X.K a) H) :
    wpAny (model X.prog X.w) X.A (call (.type "enumerate") [.ref a]) (fun v s1 => wpAny (model X.prog X.w) X.A (pyIter v) (PIE X pins σ (.Tuple elts kk tpos) R) X.xe s1) X.xe s := by
  obtain ⟨its, rv, p', hz⟩ := I.list hq
  refine Ld_enum_call (begins_list a its.toArray) p'.isList fun h' he ho hk => wpAny_pyIter_enum he ?_
  refine ⟨s.heap.objs.size + 1, [s.heap.objs.size + 1, s.heap.objs.size], _, _, H, rfl, I.kept (t' := s.toks) hk, turn_enum a (s.heap.objs.size + 1) s.heap.objs.size, ⟨⟨.none, he⟩, ⟨_, ho, rfl, rfl⟩, Nat.succ_ne_self _⟩, fun b hb => ?_, q hz⟩
  have hle : s.heap.objs.size ≤ b := by
    rcases (by simpa using hb : b = s.heap.objs.size + 1 ∨ b = s.heap.objs.size) with z | z
    · rw [z]; exact Nat.le_succ _
    · rw [z]; exact Nat.le_refl _
  exact I.fpOk hle (I.hok.fresh hle)
theorem pi_enm {it : E} {x : Expr} {p pos tpos : Pos} {elts : List Expr} {kk : Nat} (hr : r ≠ .own) (hg : Gl X "enumerate") (hm : X.mg "enumerate" = none) (ha : PE X x (TX X ex W HB pb r it)) (hx : nice x = true) :
    PI X (.Tuple elts kk tpos) (.Call (.Name "enumerate" p) [x] [] pos) (tI X.K X.w ex W HB pb r (.enm it)) := by
  have s1 := nice_star hx [] X.env
  refine ⟨fun pins s σ H R I h => ?_⟩
  obtain ⟨δ, g, pa, S, p⟩ := h
  simp only [ev] at p
  have e1 : itmM (bnd (itmM (ev r.b it δ)) fun ds => rt (.d (.list (enumD 0 ds)))) = bnd (itmM (ev r.b it δ)) fun ds => rt (enumD 0 ds) := by
    show bnd (bnd _ _) _ = _
    simp only [bnd_assoc, bnd_rt]
    rfl
  rw [e1] at p
  have p := itm_post (P := enumD 0) S (postG_map p)
  refine Call_ (ld_blt I hg hm boot_enumerate (PyProof.Rows.callWith_type1 (thn ((pa_cons ha pa_nil s1).run pos pins s σ H (fun vs H1 => ∃ v, vs = [v] ∧ itR X.K X.w r (enumD 0) R v H1) I ?_) fun us s1 ⟨vs, H1, I1, r1, v, e, ds, g1, p1, pen, dv, q⟩ => ?_) s1 rfl))
  · obtain ⟨δ2, g2, pa2, S2, p2⟩ := p
    exact ⟨δ2, g2, pa2, S2, post_mono p2 fun v H1 q => ⟨v, rfl, q⟩⟩
  · subst e
    obtain ⟨u, rfl, rx⟩ := vals1 r1
    rcases dv with dv | dv
    · obtain ⟨a, vs, rfl, sq, ra, _⟩ := rd_lst (toRead hr dv)
      cases rx
      exact enumL_it I1 sq fun hz => q _ _ (wk_enumL (by rw [ra.length]; exact hz) hr) keep_dv dv
    · obtain ⟨a, vs, rfl, sq, ra⟩ := rd_tup (toRead hr dv)
      cases rx
      exact enumT_it I1 sq fun hz => q _ _ (wk_enumT (by rw [ra.length]; exact hz) hr) keep_dv dv
end
end Ld
/-! text LdN -/
set_option Elab.async false
set_option linter.all false
set_option maxRecDepth 100000
set_option maxHeartbeats 4000000
namespace Ld
open PySem PySem.Spec L2
open PyProof.Rows hiding St
variable [Fs]

/-! ### states, written -/
section
variable {K : PySem.W.Frag} {w : World} {HB H : Hp} {pb pa : Option Addr} {g : G} {σ : St} {δ : Env'}
theorem set_at {α : Type} {l : List α} {i j : Nat} {a b : α} (h : (l.set i a)[j]? = some b) : (i = j ∧ b = a) ∨ (i ≠ j ∧ l[j]? = some b) := by
  by_cases e : i = j
  · subst e
    by_cases hl : i < l.length
    · rw [List.getElem?_set_self hl] at h
      exact .inl ⟨rfl, (Option.some.inj h).symm⟩
    · rw [List.getElem?_eq_none (by simpa using hl)] at h; cases h
  · rw [List.getElem?_set_ne e] at h
    exact .inr ⟨e, h⟩
/-- a slot is written with what is no list of one's own -/
theorem StOk.setS (S : StOk K w HB pb σ H pa δ g) {i : Nat} {s : Slot} {v : V} (hs : SlotOk K w HB H pa s v) (hi : i < δ.length) (ho : ∀ d, s = .own d → ∀ (j : Nat) y, j ≠ i → δ[j]? = some (some (.own y)) → σ[j]? ≠ some (some v)) :
    StOk K w HB pb (σ.set i (some v)) H pa (δ.set i (some s)) g where
  len := by rw [List.length_set, List.length_set, S.len]
  slot := fun j t h => by
    rcases set_at h with ⟨e, e2⟩ | ⟨e, h⟩
    · subst e
      cases e2
      exact ⟨v, List.getElem?_set_self (by rw [S.len]; exact hi), hs⟩
    · obtain ⟨u, h1, h2⟩ := S.slot j t h
      exact ⟨u, by rw [List.getElem?_set_ne e]; exact h1, h2⟩
  apart := fun j k x y hjk h1 h2 => by
    rcases set_at h1 with ⟨e, e2⟩ | ⟨e, h1'⟩ <;> rcases set_at h2 with ⟨f, f2⟩ | ⟨f, h2'⟩
    · exact absurd (e.symm.trans f) hjk
    · subst e
      cases e2
      rw [List.getElem?_set_self (by rw [S.len]; exact hi), List.getElem?_set_ne f]
      exact fun q => ho _ rfl k y (Ne.symm f) h2' q.symm
    · subst f
      cases f2
      rw [List.getElem?_set_self (by rw [S.len]; exact hi), List.getElem?_set_ne e]
      exact fun q => ho _ rfl j x (Ne.symm e) h1' q
    · rw [List.getElem?_set_ne e, List.getElem?_set_ne f]
      exact S.apart j k x y hjk h1' h2'
  base := S.base
theorem StOk.setV (S : StOk K w HB pb σ H pa δ g) {i : Nat} {d : PyData} {v : V} (rp : Rp K w H d v) (hi : i < δ.length) : StOk K w HB pb (σ.set i (some v)) H pa (δ.set i (some (.val d))) g :=
  S.setS (s := .val d) rp hi fun _ e => by cases e
/-- slots forgotten -/
theorem StOk.forget (S : StOk K w HB pb σ H pa δ g) {i : Nat} : StOk K w HB pb (σ.set i none) H pa (δ.set i none) g where
  len := by rw [List.length_set, List.length_set, S.len]
  slot := fun j t h => by
    rcases set_at h with ⟨e, e2⟩ | ⟨e, h⟩
    · cases e2
    · obtain ⟨u, h1, h2⟩ := S.slot j t h
      exact ⟨u, by rw [List.getElem?_set_ne e]; exact h1, h2⟩
  apart := fun j k x y hjk h1 h2 => by
    rcases set_at h1 with ⟨e, e2⟩ | ⟨e, h1⟩ <;> rcases set_at h2 with ⟨f, f2⟩ | ⟨f, h2⟩
    · cases e2
    · cases e2
    · cases f2
    · rw [List.getElem?_set_ne e, List.getElem?_set_ne f]
      exact S.apart j k x y hjk h1 h2
  base := S.base
theorem StOk.wipe (S : StOk K w HB pb σ H pa δ g) : ∀ vs : List Nat, StOk K w HB pb (wipe σ vs) H pa (wipeD δ vs) g
  | [] => S
  | v :: vs => (S.wipe vs).forget
/-! ### a tracked list that is filled -/
/-- the heap without D -/
def dropD (H : Hp) (D : Addr) : Hp := fun a => if a = D then none else H a
theorem drp_ne {D a : Addr} (h : a ≠ D) : dropD H D a = H a := by unfold dropD; rw [if_neg h]
theorem drp_self {D : Addr} : dropD H D D = none := by unfold dropD; rw [if_pos rfl]
theorem drp_upd {D : Addr} {o : HO} : dropD (upd H D o) D = dropD H D := by
  funext a
  by_cases h : a = D
  · subst h; rw [drp_self, drp_self]
  · rw [drp_ne h, drp_ne h, upd_ne h]
theorem upd_drp {D : Addr} {o : HO} (h : H D = some o) : H = upd (dropD H D) D o := by
  funext a
  by_cases e : a = D
  · subst e; rw [upd_same, h]
  · rw [upd_ne e, drp_ne e]
theorem drp_none {D : Addr} (h : H D = none) : dropD H D = H := by
  funext a
  by_cases e : a = D
  · subst e; rw [drp_self, h]
  · rw [drp_ne e]
theorem Kp.of_drp {D : Addr} : Kp (dropD H D) H := ⟨fun a xs h => by
    by_cases e : a = D
    · subst e; rw [drp_self] at h; cases h
    · rw [drp_ne e] at h; exact h, fun a o u h => by
    by_cases e : a = D
    · subst e; rw [drp_self] at h; cases h
    · rw [drp_ne e] at h; exact h⟩
/-- D is no tuple, nothing frozen -/
def Fill (H : Hp) (D : Addr) : Prop := ∃ o, H D = some o ∧ (∀ xs, o ≠ .tup xs) ∧ (∀ b u, o ≠ .frz b u)
theorem Kp.to_drp {D : Addr} (f : Fill H D) : Kp H (dropD H D) := by
  obtain ⟨o, h, n1, n2⟩ := f
  refine ⟨fun a xs q => ?_, fun a b u q => ?_⟩
  · rw [drp_ne]
    · exact q
    · rintro rfl
      rw [h] at q
      exact n1 _ (Option.some.inj q)
  · rw [drp_ne]
    · exact q
    · rintro rfl
      rw [h] at q
      exact n2 _ _ (Option.some.inj q)
theorem PenOk.drp {D : Addr} (p : PenOk K w H pa g) (f : Fill H D) (n : pa ≠ some D) : PenOk K w (dropD H D) pa g := by
  cases g with
  | none => exact p
  | some q =>
    obtain ⟨a, c, e, hb, r⟩ := p
    exact ⟨a, c, e, by rw [drp_ne (fun z => n (by rw [e, z]))]; exact hb, r.kp (Kp.to_drp f)⟩
theorem PenOk.undrp {D : Addr} (p : PenOk K w (dropD H D) pa g) : PenOk K w H pa g := by
  cases g with
  | none => exact p
  | some q =>
    obtain ⟨a, c, e, hb, r⟩ := p
    refine ⟨a, c, e, ?_, r.kp Kp.of_drp⟩
    rw [drp_ne] at hb
    · exact hb
    · rintro rfl
      rw [drp_self] at hb; cases hb
theorem Stp.drp {H' : Hp} {pa' : Option Addr} {g' : G} {D : Addr} (st : Stp K w H pa H' pa' g') (f' : Fill H' D) (n : pa' ≠ some D) : Stp K w (dropD H D) pa (dropD H' D) pa' g' where
  gr := fun a o h hn => by
    by_cases e : a = D
    · subst e; rw [drp_self] at h; cases h
    · rw [drp_ne e] at h ⊢
      exact st.gr a o h hn
  kp := Kp.of_drp.trans (st.kp.trans (Kp.to_drp f'))
  pen := st.pen.drp f' n
  same := by
    rcases st.same with e | ⟨e, f⟩
    · exact .inl e
    · refine .inr ⟨e, fun a ha => ?_⟩
      by_cases z : a = D
      · rw [z]; exact drp_self
      · rw [drp_ne z]; exact f a ha
theorem Ow.undrp {D : Addr} {d : PyData} {v : V} (h : Ow K w (dropD H D) d v) : Ow K w H d v := by
  have key : ∀ a o, dropD H D a = some o → H a = some o := fun a o h => by
    by_cases e : a = D
    · subst e; rw [drp_self] at h; cases h
    · rw [drp_ne e] at h; exact h
  cases d with
  | list ds =>
    obtain ⟨a, vs, e, h, r⟩ := h
    exact ⟨a, vs, e, key _ _ h, r.kp Kp.of_drp⟩
  | dict kvs =>
    obtain ⟨a, e, ⟨ns, h, r⟩ | ⟨ns, h, r⟩⟩ := h
    · exact ⟨a, e, .inl ⟨ns, key _ _ h, r.kp Kp.of_drp⟩⟩
    · exact ⟨a, e, .inr ⟨ns, key _ _ h, r.kp Kp.of_drp⟩⟩
  | _ => exact h.elim
theorem StOk.undrp {D : Addr} (S : StOk K w HB pb σ (dropD H D) pa δ g) : StOk K w HB pb σ H pa δ g where
  len := S.len
  slot := fun i s h => by
    obtain ⟨v, h1, h2⟩ := S.slot i s h
    refine ⟨v, h1, ?_⟩
    cases s with
    | val x => exact Rp.kp Kp.of_drp h2
    | own x => exact ⟨h2.1.undrp, h2.2⟩
    | pen => exact h2
  apart := S.apart
  base := {
    gr := fun a o h n => by
      have q := S.base.gr a o h n
      by_cases e : a = D
      · subst e; rw [drp_self] at q; cases q
      · rw [drp_ne e] at q; exact q
    kp := S.base.kp.trans Kp.of_drp
    pen := S.base.pen.undrp
    same := S.base.same }
end
/-! ### targets -/
mutual
def gT (K : PySem.W.Frag) : Tg → TG
  | .nm i => gName i
  | .tp ts => gTup K ts.len (gTs K ts)
def gTs (K : PySem.W.Frag) : Tgs → TGs
  | .nil => gNil
  | .cons t r => gCons (gT K t) (gTs K r)
end
theorem wipe_set {σ : St} {i : Nat} {v : Option V} : ∀ {vs : List Nat}, i ∈ vs → L2.wipe (σ.set i v) vs = L2.wipe σ vs
  | j :: vs, h => by
    show (L2.wipe (σ.set i v) vs).set j none = (L2.wipe σ vs).set j none
    by_cases hi : i ∈ vs
    · rw [wipe_set hi]
    · have e : i = j := by
        rcases List.mem_cons.mp h with e | e
        · exact e
        · exact absurd e hi
      subst e
      have : ∀ vs : List Nat, i ∉ vs → L2.wipe (σ.set i v) vs = (L2.wipe σ vs).set i v := by
        intro vs
        induction vs with
        | nil => intro _; rfl
        | cons k ks ih =>
          intro hn
          have h1 : i ≠ k := fun e => hn (by simp [e])
          have h2 : i ∉ ks := fun e => hn (by simp [e])
          show (L2.wipe (σ.set i v) ks).set k none = ((L2.wipe σ ks).set k none).set i v
          rw [ih h2, List.set_comm _ _ h1]
      rw [this vs hi, List.set_set]
mutual
theorem asgT_ok {K : PySem.W.Frag} {w : World} {HB H : Hp} {pb pa : Option Addr} {g : G} : ∀ {t : Tg} {d : PyData} {δ δ' : Env'} {σ : St} {v : V} {Q : St → Hp → Prop}, asgT t d δ = some δ' → StOk K w HB pb σ H pa δ g → Rp K w H d v →
    (∀ σ', StOk K w HB pb σ' H pa δ' g → (∀ vs : List Nat, (∀ i ∈ t.slots, i ∈ vs) → L2.wipe σ' vs = L2.wipe σ vs) → (∀ i, i ∉ t.slots → σ'[i]? = σ[i]?) → Q σ' H) → gT K t v σ H Q
  | .nm i, d, δ, δ', σ, v, Q, h, S, rp, hq => by
    have h : (match decide (i < δ.length) with | true => some (δ.set i (some (.val d))) | false => none) = some δ' := h
    cases q : decide (i < δ.length) with
    | false => rw [q] at h; cases h
    | true =>
      rw [q] at h
      cases h
      exact hq _ (S.setV rp (of_decide_eq_true q)) (fun vs hv => wipe_set (hv i (by simp [Tg.slots]))) fun j hj => List.getElem?_set_ne fun e => hj (by simp [Tg.slots, e])
  | .tp ts, d, δ, δ', σ, v, Q, h, S, rp, hq => by
    cases rp <;> try (simp [asgT] at h; done)
    rename_i a vs ds sq ra
    obtain ⟨hl, hh⟩ := asgTs_ok (t := ts) h S ra hq
    exact ⟨a, vs, rfl, sq, hl, hh⟩
theorem asgTs_ok {K : PySem.W.Frag} {w : World} {HB H : Hp} {pb pa : Option Addr} {g : G} : ∀ {t : Tgs} {ds : List PyData} {δ δ' : Env'} {σ : St} {vs : List V} {Q : St → Hp → Prop}, asgTs t ds δ = some δ' → StOk K w HB pb σ H pa δ g → RpA K w H ds vs →
    (∀ σ', StOk K w HB pb σ' H pa δ' g → (∀ vs : List Nat, (∀ i ∈ t.slots, i ∈ vs) → L2.wipe σ' vs = L2.wipe σ vs) → (∀ i, i ∉ t.slots → σ'[i]? = σ[i]?) → Q σ' H) → vs.length = t.len ∧ gTs K t vs σ H Q
  | .nil, ds, δ, δ', σ, vs, Q, h, S, ra, hq => by
    cases ra with
    | nil => cases h; exact ⟨rfl, rfl, hq σ S (fun _ _ => rfl) fun _ _ => rfl⟩
    | cons => simp [asgTs] at h
  | .cons t r, ds, δ, δ', σ, vs, Q, h, S, ra, hq => by
    cases ra with
    | nil => simp [asgTs] at h
    | cons a b =>
      rename_i d ds v vs
      have h : (match asgT t d δ with | some δ' => asgTs r ds δ' | none => none) = some δ' := h
      cases q : asgT t d δ with
      | none => rw [q] at h; cases h
      | some δ1 =>
        rw [q] at h
        refine ⟨?_, v, vs, rfl, asgT_ok q S a fun σ1 S1 e1 e1' => (asgTs_ok h S1 b fun σ2 S2 e2 e2' => hq σ2 S2 (fun ws hw => (e2 ws fun i hi => hw i (by simp [Tgs.slots, hi])).trans (e1 ws fun i hi => hw i (by simp [Tgs.slots, hi]))) fun i hi =>
          (e2' i fun z => hi (by simp [Tgs.slots, z])).trans (e1' i fun z => hi (by simp [Tgs.slots, z]))).2⟩
        have len : ∀ {t : Tgs} {ds : List PyData} {δ δ' : Env'}, asgTs t ds δ = some δ' → ds.length = t.len := by
          intro t
          induction t using Tgs.rec (motive_1 := fun _ => True) with
          | nil => intro ds δ δ' h; cases ds <;> simp [asgTs, Tgs.len] at h ⊢
          | cons t r _ ih =>
            intro ds δ δ' h
            cases ds with
            | nil => simp [asgTs] at h
            | cons d ds =>
              have h : (match asgT t d δ with | some δ' => asgTs r ds δ' | none => none) = some δ' := h
              cases q : asgT t d δ with
              | none => rw [q] at h; cases h
              | some δ1 => rw [q] at h; simp [Tgs.len, ih h]
          | nm => trivial
          | tp => trivial
        have := len h
        rw [b.length] at this
        simp [Tgs.len, this]
end
end Ld
/-! text LdO -/
set_option Elab.async false
set_option linter.all false
set_option maxRecDepth 100000
set_option maxHeartbeats 4000000
namespace Ld
open PySem PySem.Spec L2
open PyProof.Rows hiding St
variable [Fs]

/-- nothing may be raised -/
def W0 : WX := fun _ _ _ _ => False
theorem noX_ok {α : Type} {m : M α} {g g' : G} {y : α} : noX m g = .ok y g' ↔ m g = .ok y g' := by
  unfold noX
  cases m g <;> simp
section
variable {X : Cx} {ex : EX} {W : WX} {HB : Hp} {pb : Option Addr} {r : Md} {σ : St} {H : Hp} {pa : Option Addr} {g : G} {δ : Env'} {Q : VK} {tg : Expr}
/-- a walk that raises nothing: all of it is known -/
theorem noX_in {α : Type} {m : M α} {f : α → M DV} (h : post X.K X.w ex W σ H pa r (bnd (noX m) f g) Q) : ∃ y g', m g = .ok y g' ∧ post X.K X.w ex W σ H pa r (f y g') Q := by
  unfold bnd noX at h
  cases q : m g with
  | ok y g' => rw [q] at h; exact ⟨y, g', rfl, h⟩
  | exc c fs g' => rw [q] at h; exact h.elim
  | no => rw [q] at h; exact h.elim
theorem okM {K : PySem.W.Frag} {w : World} {x : DV} {g' : G} {m : M DV} (h : m g = .ok x g') (hQ : ∀ v H' pa', Stp K w H pa H' pa' g' → DvOk r K w H' pa' x v → (r = .own → mutD x = true → ∀ a, v = .ref a → H a = none) → Q v H') : post K w ex W σ H pa r (m g) Q := by
  rw [h]; exact hQ
theorem okG {K : PySem.W.Frag} {w : World} {α : Type} {x : α} {g' : G} {m : M α} {P : α → G → Hp → Option Addr → Prop} (h : m g = .ok x g') (hP : ∀ H' pa', Stp K w H pa H' pa' g' → P x g' H' pa') : postG K w ex W σ H pa (m g) P := by
  rw [h]; exact hP
/-- a clause's test -/
def tC1 (K : PySem.W.Frag) (w : World) (ex : EX) (W : WX) (HB : Hp) (pb : Option Addr) (e : E) : TT := fun σ H Q => ∃ δ g pa, StOk K w HB pb σ H pa δ g ∧ postG K w ex W σ H pa (cndM e (ev true e δ) g) fun b _ H1 _ => Q b H1
theorem pts0 : PTs X [] (tC1 X.K X.w ex W HB pb .omit) := by
  refine ⟨fun pins s σ H Q I h => pts_nil.run pins s σ H Q I ?_⟩
  obtain ⟨δ, g, pa, S, p⟩ := h
  exact p H pa (Stp.refl S.pen)
theorem pts1 {e : E} {c : Expr} (h : PT X c (tT X.K X.w ex W HB pb e)) (he : e ≠ .omit) : PTs X [c] (tC1 X.K X.w ex W HB pb e) := by
  refine ⟨fun pins s σ H Q I q => (pts_one h).run pins s σ H Q I ?_⟩
  obtain ⟨δ, g, pa, S, p⟩ := q
  rw [cndM_ne he] at p
  exact ⟨δ, g, pa, S, p⟩
/-- one turn of the loop, told -/
theorem turn_at {F : PyData → M (Option PyData)} {ds ys : List PyData} {i : Nat} {d : PyData} {gE : G} (hd : ds[i]? = some d) (h : loopC F (ds.drop i) g = .ok ys gE) :
    ∃ o g1 zs, F d g = .ok o g1 ∧ loopC F (ds.drop (i + 1)) g1 = .ok zs gE ∧ ys = (match o with | some y => y :: zs | none => zs) := by
  have hi := (List.getElem?_eq_some_iff.mp hd)
  obtain ⟨hi, e⟩ := hi
  rw [List.drop_eq_getElem_cons hi, e] at h
  unfold loopC at h
  obtain ⟨o, g1, h1, h⟩ := bnd_ok h
  obtain ⟨zs, g2, h2, h⟩ := bnd_ok h
  have h : Res.ok _ g2 = Res.ok ys gE := h
  cases h
  exact ⟨o, g1, zs, h1, h2, rfl⟩
theorem turnC_at {c : M Bool} {x : M DV} {o : Option PyData} {g1 : G} (h : turnC c x g = .ok o g1) : ∃ k g2, c g = .ok k g2 ∧ (match k with
    | true => ∃ y, x g2 = .ok (.d y) g1 ∧ o = some y
    | false => o = none ∧ g1 = g2) := by
  unfold turnC at h
  obtain ⟨k, g2, h1, h⟩ := bnd_ok h
  refine ⟨k, g2, h1, ?_⟩
  cases k with
  | false =>
    have h : Res.ok none g2 = Res.ok o g1 := h
    cases h
    exact ⟨rfl, rfl⟩
  | true =>
    obtain ⟨y, g3, h2, h⟩ := bnd_ok h
    cases y with
    | pen => cases h
    | d y =>
      have h : Res.ok (some y) g3 = Res.ok o g1 := h
      cases h
      exact ⟨y, h2, rfl⟩
theorem loopC_len {F : PyData → M (Option PyData)} : ∀ {ds ys : List PyData} {g gE : G}, loopC F ds g = .ok ys gE → ys.length ≤ ds.length
  | [], ys, g, gE, h => by
    have h : Res.ok ([] : List PyData) g = Res.ok ys gE := h
    cases h
    exact Nat.le_refl _
  | d :: ds, ys, g, gE, h => by
    obtain ⟨o, g1, zs, _, h2, e⟩ := turn_at (i := 0) (d := d) (ds := d :: ds) rfl h
    have := loopC_len (ds := ds) h2
    cases o <;> (subst e; simp; omega)
theorem wipe_two {σ : St} {vs : List Nat} : ∀ {us : List Nat}, (∀ i ∈ us, i ∈ vs) → L2.wipe (L2.wipe σ us) vs = L2.wipe σ vs
  | [], _ => rfl
  | u :: us, h => by
    show L2.wipe ((L2.wipe σ us).set u none) vs = _
    rw [wipe_set (h u (by simp)), wipe_two fun i hi => h i (by simp [hi])]
theorem Stp.keepD {K : PySem.W.Frag} {w : World} {H H' : Hp} {p p' : Option Addr} {g' : G} {D : Addr} {o : HO} (st : Stp K w H p H' p' g') (n : p ≠ some D) (h : H D = some o) : p' ≠ some D ∧ H' D = some o := by
  refine ⟨?_, st.gr D o h n⟩
  rcases st.same with e | ⟨_, f⟩
  · rw [← e]; exact n
  · intro e
    rw [f D e] at h; cases h
/-- D laid beside -/
theorem Stp.undrp {K : PySem.W.Frag} {w : World} {H : Hp} {p : Option Addr} {g : G} {D : Addr} (q : PenOk K w (dropD H D) p g) : Stp K w (dropD H D) p H p g where
  gr := fun a o h _ => by
    by_cases e : a = D
    · subst e; rw [drp_self] at h; cases h
    · rw [drp_ne e] at h; exact h
  kp := Kp.of_drp
  pen := q.undrp
  same := .inl rfl
/-- a turn of a walk: nothing, or a new tuple -/
theorem Stp.yld {K : PySem.W.Frag} {w : World} {H H' : Hp} {p : Option Addr} {g : G} (q : PenOk K w H p g) (h : H' = H ∨ ∃ p xs, H p = none ∧ H' = upd H p (.tup xs)) : Stp K w H p H' p g := by
  rcases h with rfl | ⟨a, xs, n, rfl⟩
  · exact Stp.refl q
  · exact Stp.new q n
/-- [x for t in it if c], as HandS reads it -/
theorem lc_read {x it c : E} {t : Tg} {Q Q' : VK} (hQ : ∀ v H2, NewL X.K X.w r Q v H2 → Q' v H2) (h : tE X.K X.w ex W HB pb r (.lc x t it c) σ H Q) :
    tLc (tI X.K X.w ex W HB pb .read it) (gT X.K t) (tC1 X.K X.w ex W0 HB pb c) (tE X.K X.w ex W0 HB pb .pure x) t.slots σ H Q' := by
  obtain ⟨δ, g, pa, S, p⟩ := h
  simp only [ev] at p
  refine ⟨δ, g, pa, S, postG_mono (postG_st (post_bndG p)) fun ds g1 H1 p1 ⟨st, p⟩ J Src wk kp src D nD => ?_⟩
  have S1 := S.step st
  obtain ⟨ys, gE, hl, p⟩ := noX_in p
  obtain ⟨hz, wstop, wgo⟩ := wk
  refine ⟨fun i m H => m = ds.length - i ∧ i ≤ ds.length ∧ ∃ vs ya yb g' p', H D = some (.lst vs) ∧ Stp X.K X.w H1 p1 (dropD H D) p' g' ∧ p' ≠ some D ∧ Src (dropD H D) p' ∧ RpA X.K X.w (dropD H D) ya vs ∧ ya.length ≤ i ∧ loopC (fun d => bnd (ofO (asgT t d (wipeD δ t.slots))) fun δ' => turnC (cndM c (ev true c δ')) (ev false x δ')) (ds.drop i) g' = .ok yb gE ∧ ya ++ yb = ys, ⟨ds.length, by simp, Nat.zero_le _, [], [], ys, g1, p1, upd_same, ?_⟩, ?_⟩
  · rw [drp_upd, drp_none nD]
    exact ⟨Stp.refl S1.pen, ne_pen S1.pen nD, src, .nil, Nat.zero_le _, hl, rfl⟩
  · rintro i m H2 ⟨rfl, hi2, vs, ya, yb, g', p', hD, st2, npD, src2, ra, hya, hl2, eq⟩
    have fillL : ∀ {H : Hp} {vs : List V}, H D = some (.lst vs) → Fill H D := fun h => ⟨_, h, fun xs => by simp, fun b u => by simp⟩
    have st3 : Stp X.K X.w (dropD H2 D) p' H2 p' g' := Stp.undrp st2.pen
    have src3 := kp.1 _ _ _ _ _ st3 src2
    have S2 : StOk X.K X.w HB pb σ H2 p' δ g' := (S1.step st2).step st3
    by_cases hlt : i < ds.length
    · obtain ⟨d, hd⟩ : ∃ d, ds[i]? = some d := ⟨_, List.getElem?_eq_getElem hlt⟩
      obtain ⟨o, gq, zs, hF, hl3, ey⟩ := turn_at hd hl2
      obtain ⟨δ1, ga, hA', hF⟩ := bnd_ok hF
      obtain ⟨hA, eg⟩ := ofO_ok hA'
      subst eg
      obtain ⟨k, g2, hc, hk⟩ := turnC_at hF
      obtain ⟨jgo, jy⟩ := wgo i d H2 p' hd src3
      refine .inr ⟨jgo, _, fun H' h => ⟨ds.length - (i + 1), by omega, h⟩, fun v H3 hy => ?_⟩
      obtain ⟨hy, rp⟩ := jy v H3 hy
      have st4 := Stp.yld S2.pen hy
      obtain ⟨np3, hD3⟩ := st4.keepD npD hD
      refine asgT_ok hA ((S2.step st4).wipe t.slots) rp fun σ' S' ew _ => ⟨(ew _ fun i h => h).trans (wipe_two fun i h => h), ?_⟩
      refine ⟨δ1, g', p', S', okG hc fun H4 p4 st5 => ?_⟩
      obtain ⟨np4, hD4⟩ := st5.keepD np3 hD3
      have toD : ∀ {H5 : Hp} {p5 : Option Addr} {g5 : G}, Stp X.K X.w H4 p4 H5 p5 g5 → H5 D = some (.lst vs) → p5 ≠ some D → Stp X.K X.w (dropD H2 D) p' (dropD H5 D) p5 g5 := fun st6 h n => (st4.trans (st5.trans st6)).drp (fillL h) n
      cases k with
      | false =>
        obtain ⟨rfl, rfl⟩ := hk
        have st6 := toD (Stp.refl st5.pen) hD4 np4
        refine ⟨rfl, hlt, vs, ya, zs, gq, p4, hD4, st2.trans st6, np4, kp.1 _ _ _ _ _ st6 src2, ra.kp st6.kp, by omega, hl3, ?_⟩
        rw [← eq, ey]
      | true =>
        obtain ⟨y, hx, rfl⟩ := hk
        refine ⟨δ1, g2, p4, S'.step st5, okM hx fun u H5 p5 st6 du _ => ?_⟩
        obtain ⟨np5, hD5⟩ := st6.keepD np4 hD4
        have st7 := toD st6 hD5 np5
        have hlen : vs.length = ya.length := ra.length.symm
        refine ⟨vs, hD5, by omega, rfl, hlt, vs ++ [u], ya ++ [y], zs, gq, p5, upd_same, ?_⟩
        rw [drp_upd]
        refine ⟨st2.trans st7, np5, kp.1 _ _ _ _ _ st7 src2, (ra.kp st7.kp).append (.one (Rp.kp (Kp.to_drp (fillL hD5)) du)), by rw [List.length_append]; simp; omega, hl3, ?_⟩
        rw [← eq, ey, List.append_assoc]
        rfl
    · have e : i = ds.length := by omega
      subst e
      refine .inl ⟨wstop H2 p' src3, ?_⟩
      rw [List.drop_length] at hl2
      have hl2 : Res.ok ([] : List PyData) g' = Res.ok yb gE := hl2
      cases hl2
      rw [List.append_nil] at eq
      subst eq
      exact hQ _ _ ⟨dropD H2 D, p', _, vs, ya, D, rfl, upd_drp hD, drp_self, st2.pen, ra, post_step st2 p⟩
theorem n_lc (R : Rdy X) {x it c : E} {t : Tg} {elt iter : Expr} {ifs : List Expr} {scope : Scope} {own : List (Str × Nat)} {pos : Pos} (ok : BlkOk X.N X.env.scope scope own) (hi : PI X tg iter (tI X.K X.w ex W HB pb .read it)) (ho : own.map (·.2) = t.slots)
    (hg : ∀ (s : Shared) (H : Hp) (C : Addr) (cl : List (Str × Addr)) (fp : List Addr), PG (X.blk s H scope (compEnvC scope cl C X.env) fp) tg (gT X.K t))
    (ht : ∀ (s : Shared) (H : Hp) (C : Addr) (cl : List (Str × Addr)) (fp : List Addr), PTs (X.blk s H scope (compEnvC scope cl C X.env) fp) ifs (tC1 X.K X.w ex W0 HB pb c))
    (he : ∀ (s : Shared) (H : Hp) (C : Addr) (cl : List (Str × Addr)) (fp : List Addr), PE (X.blk s H scope (compEnvC scope cl C X.env) fp) elt (tE X.K X.w ex W0 HB pb .pure x))
    (hn : nice iter = true) : PE X (.ListComp elt [⟨tg, iter, ifs, 0⟩] scope pos) (TX X ex W HB pb r (.lc x t it c)) := by
  refine pe_newL (r := r) (pe_lc R.calm R.nd hi ok hg ht he (nice_fold hn _)) fun σ H Q h => ?_
  rw [ho]
  exact lc_read (fun _ _ h => h) h
theorem newL_own {v : V} {H2 : Hp} (h : NewL X.K X.w .own Q v H2) : Q v H2 := by
  obtain ⟨H1, p1, g1, xs, ds, p, rfl, rfl, n, pen, rp, q⟩ := h
  exact q _ _ p1 (Stp.new pen n) (fun _ => ⟨⟨p, xs, rfl, upd_same, rp.kp (Kp.new n)⟩, fun a e => by cases e; exact ne_pen pen n⟩) fun _ _ a e => by cases e; exact n
end
end Ld
/-! text LdP -/
set_option Elab.async false
set_option linter.all false
set_option maxRecDepth 100000
set_option maxHeartbeats 4000000
namespace Ld
open PySem PySem.Spec L2
open PyProof.Rows hiding St
variable [Fs]

/-! ### functions -/
/-- HandS' promise of a def, where no repr is under way -/
structure FnG (P : Program) (w : World) (K : PySem.W.Frag) (mg : Str → Option Value) (base : Heap) (CX : CXT) (k : Nat) (f : Addr) (fd : FuncData) (ps : List Str) (sp : Sp) : Prop where
  len : ∀ vs H Q E, sp vs H Q E → vs.length = ps.length
  run : ∀ (A : Around) (outer : List Env) (s : Shared) (H : Hp) (args : Args) (us : List Value) (vs : List V) (Q : VK) (E : XK), Room k A → A.guards = some [] → Env0 P w K mg base A outer s H → BindsTo s fd args (ps.zip us) → Vals vs us → sp vs H Q E →
    codeAny (model P w) A (.call (.ref f) args) (CR CX outer P w H s Q E) s
theorem FnG.mono {P : Program} {w : World} {K : PySem.W.Frag} {mg : Str → Option Value} {base : Heap} {CX : CXT} {j k : Nat} {f : Addr} {fd : FuncData} {ps : List Str} {sp : Sp} (F : FnG P w K mg base CX j f fd ps sp) (h : j ≤ k) : FnG P w K mg base CX k f fd ps sp where
  len := F.len
  run := fun A o s H as us vs Q E hr => F.run A o s H as us vs Q E (hr.mono h)
/-- by the body's reading -/
theorem fnG_of {CX : CXT} {P : Program} {w : World} {K : PySem.W.Frag} {mg : Str → Option Value} {base : Heap} {k : Nat} {f : Addr} {name qual : Str} {params : Arguments} {body : List Stmt} {scope : Scope} {dV kV doc pm cdv ct oc : Value} {an od : Option Addr}
    {osl : Array (Option Value)} {N ps : List Str} {sp : Sp} (at_ : K.lookup f = some ⟨oc, od, .func (PySem.W.fnOf name qual params body scope dV kV doc pm an cdv ct), osl⟩) (code : PySem.W.codeIn K cdv qual = true) (S : FnScope N ps scope) (len : ∀ vs H Q E, sp vs H Q E → vs.length = ps.length)
    (read : ∀ (A : Around) (outer : List Env) (s : Shared) (H : Hp) (vs : List V) (Q : VK) (E : XK), Room k (A.deeper (envOfC qual scope s.heap.objs.size f cdv)) → A.guards = some [] → sp vs H Q E →
      ∃ t, PSs (cxOf CX P w K mg base N qual scope f cdv A outer s H E) body t ∧ t { nx := fun _ H' => Q .non H', rt := Q } (start N vs) H) :
    FnG P w K mg base CX (k + 1) f (PySem.W.fnOf name qual params body scope dV kV doc pm an cdv ct) ps sp where
  len := len
  run := by
    intro A outer s H args us vs Q E room gd e0 bind rel hsp
    have still : ∀ b o, base.get? b = some o → s.heap.get? b = some o := fun b o e => (e0.bs b o e).1
    have kin := e0.mod.kin.keeps still
    refine codeAny_call_function room.depth (kin _ _ at_) rfl S.co S.gen rfl (PySem.W.codeRec_of kin code) (bind _ _ _ _ ?_)
    refine wpAny_newFunctionEnv_cells S.kind (fun y hy => ?_) fun env ee s1 made => ?_
    · rcases S.par y.1 (List.of_mem_zip hy).1 with c | c
      · exact .inl c
      · exact .inr ⟨c, PySem.W.cellsFrom_some _ _ _ (.inl c)⟩
    subst ee
    obtain ⟨t, bodyT, go⟩ := read A outer s H vs Q E (room.deeper _) gd hsp
    have I0 := inv_start (CX := CX) (E := E) S room.hd e0 (len _ _ _ _ hsp) rel made
    refine ⟨(e0.mod.nolimit.keeps still).keeps made.toInCall.keep, codeAny_func (wpAny_mono (bodyT.run [] s1 (start N vs) H _ I0 go) (fun fl s' out => ?_) fun _ _ x => x)⟩
    cases fl with
    | ret u => obtain ⟨v, _, H', J, rv, q⟩ := out; exact ⟨v, H', J.os, J.bare, J.base, J.hok, rv, q⟩
    | next => obtain ⟨_, H', J, q⟩ := out; exact ⟨.non, H', J.os, J.bare, J.base, J.hok, rfl, q⟩
    | brk => obtain ⟨_, _, _, q⟩ := out; exact q.elim
    | cont => obtain ⟨_, _, _, q⟩ := out; exact q.elim

/-- what a def does to data -/
def spD (K : PySem.W.Frag) (w : World) (ex : EX) (F : Fun) (n : Nat) : Sp := fun vs H Q E => vs.length = n ∧ ∃ xs g pa, PenOk K w H pa g ∧ DvAll .pure K w H pa xs vs ∧ post K w ex (fun C d _ H' => E C d H') [] H pa .pure (F xs g) Q
/-- what stands of the module for a callee -/
structure Cal (X : Cx) (ex : EX) (n : Str) (F : Fun) (np : Nat) : Prop where
  fn : ∃ (k : Nat) (f : Addr) (fd : FuncData) (ps : List Str), ps.length = np ∧ FnG X.prog X.w X.K X.mg X.base (CX X.prog X.w) k f fd ps (spD X.K X.w ex F np) ∧ Room k X.A ∧ X.mg n = some (.ref f) ∧ PySem.W.keepIn X.K (.ref f) = true ∧ Binds X.K fd ps []
section
variable {X : Cx} {ex : EX} {W : WX} {HB : Hp} {pb : Option Addr} {r : Md} {σ : St} {H : Hp} {pa : Option Addr} {g : G} {δ : Env'} {Q : VK} {tg : Expr}
/-- the callee runs -/
theorem run_call {F : Fun} {np : Nat} {pins : List (Addr × Obj)} {s : Shared} {us : List Value} {vs : List V} {xs : List DV} (R : Rdy X) (tk : Takes X W) (hr : r ≠ .own) (f : Addr) (C : ∃ (k : Nat) (fd : FuncData) (ps : List Str), ps.length = np ∧ FnG X.prog X.w X.K X.mg X.base (CX X.prog X.w) k f fd ps (spD X.K X.w ex F np) ∧ Room k X.A ∧ Binds X.K fd ps [])
    (I : Inv X pins σ H s) (rv : Vals vs us) (pen : PenOk X.K X.w H pa g) (dv : DvAll .pure X.K X.w H pa xs vs) (hl : vs.length = np) (p : post X.K X.w ex W σ H pa r (F xs g) Q) : wpAny (model X.prog X.w) X.A (call (.ref f) us) (EP X pins σ Q) X.xe s := by
  obtain ⟨k, fd, ps, hp, Fn, room, bind⟩ := C
  have hus : (us ++ ([] : List Value)).length = ps.length := by rw [List.append_nil, ← rv.length, hl, hp]
  have b := bind s us I.kIn hus
  rw [List.append_nil] at b
  refine wpAny_call (codeAny_mono (Fn.run X.A X.stack s H ⟨us, []⟩ us vs Q (fun C d H' => W C d σ H') room R.gd I.env0 b rv ⟨hl, xs, g, pa, pen, dv, ?_⟩) fun res s' out => ?_)
  · revert p
    cases F xs g with
    | ok x g' =>
      refine fun p v H' pa' st dx _ => p v H' pa' st ?_ (fun e => absurd e hr)
      cases r with
      | pure => exact dx
      | own => exact absurd rfl hr
      | read =>
        cases x with
        | pen => exact dx
        | d d => exact .inl dx
    | exc c fs g' => exact fun p => p
    | no => exact fun p => p
  · cases res with
    | error e => exact tk _ _ (XE.of_call I (fun _ _ _ h => h) out)
    | ok fl =>
      cases fl with
      | ret u => exact I.after out
      | next => exact out.elim
      | brk => exact out.elim
      | cont => exact out.elim
theorem n_call {n : Str} {np : Nat} {es : Es} {x : Expr} {xs : List Expr} {p pos : Pos} (R : Rdy X) (tk : Takes X W) (hr : r ≠ .own) (C : Cal X ex n (Fs.f n) np) (hg : Gl X n) (hd : (n == ("__debug__" : Str)) = false) (ha : PA X (x :: xs) (tAr X.K X.w ex W HB pb .pure es)) (hx : niceAll (x :: xs) = true) (hn : es.len = np) :
    PE X (.Call (.Name n p) (x :: xs) [] pos) (TX X ex W HB pb r (.call n es)) := by
  have hx' : (nice x && niceAll xs) = true := hx
  rw [Bool.and_eq_true] at hx'
  obtain ⟨k, f, fd, ps, hp, Fn, room, hm, keep, bind⟩ := C.fn
  refine ⟨fun pins s σ H Q I h => ?_⟩
  obtain ⟨δ, g, pa, S, q⟩ := h
  simp only [ev] at q
  refine wpAny_Call_Name_kw (ld_glob I hg hm ?_ hd)
  refine PySem.W.callWith_K (h₀ := X.base) I.ok.mod.kin keep (thn (ha.run pos pins s σ H _ I (tArgs (r1 := .pure) S q)) fun us s1 ⟨vs, H1, I1, rv, xs', g1, p1, S1, el, dv, q⟩ => ⟨I1.kIn, ?_⟩) (nice_star hx'.1 xs _) (nice_backs hx'.2)
  exact run_call R tk hr f ⟨k, fd, ps, hp, Fn, room, bind⟩ I1 rv S1.pen dv (by rw [← Paired.length dv, el, hn]) q
theorem n_call0 {n : Str} {p pos : Pos} (R : Rdy X) (tk : Takes X W) (hr : r ≠ .own) (C : Cal X ex n (Fs.f n) 0) (hg : Gl X n) (hd : (n == ("__debug__" : Str)) = false) : PE X (.Call (.Name n p) [] [] pos) (TX X ex W HB pb r (.call n .nil)) := by
  obtain ⟨k, f, fd, ps, hp, Fn, room, hm, keep, bind⟩ := C.fn
  refine ⟨fun pins s σ H Q I h => ?_⟩
  obtain ⟨δ, g, pa, S, q⟩ := h
  refine wpAny_Call_Name_kw (ld_glob I hg hm ?_ hd)
  exact PySem.W.callWith_K0 I.kIn keep (run_call (us := []) R tk hr f ⟨k, fd, ps, hp, Fn, room, bind⟩ I .nil S.pen .nil rfl q)
end
end Ld
/-! text LsA -/
set_option Elab.async false
set_option linter.all false
set_option maxRecDepth 100000
set_option maxHeartbeats 4000000
namespace Ld
open PySem PySem.Spec
open PyProof.Rows hiding St
open L2 (TabOk MaskOk way nth runAt adv)

/-! ### sets of keys: the small questions -/
section
variable {P : Program} {w : World} {E : Value → Shared → Prop}
theorem ofA_flat {v : Value} (h : v.scannable = true) (n : Nat) : ofAClassStatement n v = pure false := by
  cases v <;> first | cases h | skip
  all_goals (unfold ofAClassStatement; rfl)
mutual
/-- no part of a key is of a class of the text's -/
theorem ofA_key : ∀ (k : NestedKey) (v : Value) (n : Nat) (A : Around) (s : Shared) (Q : Bool → Shared → Prop), NestedIs s.heap k v → k.depth ≤ n → Q false s → wpAny (model P w) A (ofAClassStatement n v) Q E s
  | .none, v, n, A, s, Q, x, hn, q => by rw [ofA_flat (by cases x; rfl)]; exact wpAny_pure q
  | .num _, v, n, A, s, Q, x, hn, q => by rw [ofA_flat (by cases x <;> rfl)]; exact wpAny_pure q
  | .text _, v, n, A, s, Q, x, hn, q => by rw [ofA_flat (by cases x; rfl)]; exact wpAny_pure q
  | .tup ks, _, 0, A, s, Q, x, hn, q => by simp only [NestedKey.depth] at hn; omega
  | .tup ks, _, n + 1, A, s, Q, x, hn, q => by
    cases x with
    | @tup a o vs m _ ho hc hd hk =>
      simp only [NestedKey.depth] at hn
      unfold ofAClassStatement
      refine wpAny_bind (wpAny_typeOf ⟨o, ho, hc⟩ ?_)
      have e : (("tuple" : String) == "tuple") = true := by decide
      simp only [e, if_true, pure_bind, Bool.not_true, Bool.false_eq_true, if_false]
      refine wpAny_bind (wpAny_seqItems ho hd ?_)
      refine wpAny_bind ?_
      show wpAny _ _ (forIn vs _ _) _ _ s
      rw [← Array.forIn_toList]
      refine wpAny_mono (ofA_keys ks vs.toList n A s hk (by omega)) (fun r s' z => ?_) fun _ _ z => z
      obtain ⟨rfl, rfl⟩ : r = (none, ()) ∧ s' = s := z
      exact wpAny_pure q
theorem ofA_keys : ∀ (ks : List NestedKey) (vs : List Value) (n : Nat) (A : Around) (s : Shared), NestedAll s.heap ks vs → NestedKey.depthAll ks ≤ n →
    wpAny (model P w) A (forIn vs ((none, ()) : Option Bool × PUnit) fun y r => do
      if ← ofAClassStatement n y then pure (ForInStep.done (some true, ())) else pure (ForInStep.yield (none, ()))) (fun r s' => r = (none, ()) ∧ s' = s) E s
  | [], _, n, A, s, x, _ => by cases x; exact wpAny_pure ⟨rfl, rfl⟩
  | k :: ks, _, n, A, s, x, hn => by
    cases x with
    | cons x1 x2 =>
      simp only [NestedKey.depthAll] at hn
      rw [List.forIn_cons]
      refine wpAny_bind (wpAny_bind (ofA_key k _ n A s _ x1 (by omega) ?_))
      simp only [Bool.false_eq_true, if_false]
      refine wpAny_pure ?_
      exact ofA_keys ks _ n A s x2 (by omega)
end
theorem hashBy_flat {v : Value} (h : v.scannable = true) (n : Nat) : ∃ b, hashByValue n v = pure b := ⟨_, hashByValue_scannable n h⟩
mutual
/-- whether a key's hash is by its value: answered, whatever the answer -/
theorem hashBy_key : ∀ (k : NestedKey) (v : Value) (n : Nat) (A : Around) (s : Shared) (Q : Bool → Shared → Prop), NestedIs s.heap k v → k.depth ≤ n → (∀ b, Q b s) → wpAny (model P w) A (hashByValue n v) Q E s
  | .none, v, n, A, s, Q, x, hn, q => by
    obtain ⟨b, e⟩ := hashBy_flat (v := v) (by cases x; rfl) n
    rw [e]; exact wpAny_pure (q _)
  | .num _, v, n, A, s, Q, x, hn, q => by
    obtain ⟨b, e⟩ := hashBy_flat (v := v) (by cases x <;> rfl) n
    rw [e]; exact wpAny_pure (q _)
  | .text _, v, n, A, s, Q, x, hn, q => by
    obtain ⟨b, e⟩ := hashBy_flat (v := v) (by cases x; rfl) n
    rw [e]; exact wpAny_pure (q _)
  | .tup ks, _, 0, A, s, Q, x, hn, q => by simp only [NestedKey.depth] at hn; omega
  | .tup ks, _, n + 1, A, s, Q, x, hn, q => by
    cases x with
    | @tup a o vs m _ ho hc hd hk =>
      simp only [NestedKey.depth] at hn
      unfold hashByValue
      refine wpAny_bind (wpAny_specialOf ⟨o, ho, hc⟩ F.slot_tuple_hash.lookup ?_)
      show wpAny _ _ (seqItems? (.ref a) >>= _) _ _ s
      refine wpAny_bind (wpAny_seqItems ho hd ?_)
      refine wpAny_bind ?_
      show wpAny _ _ (forIn vs _ _) _ _ s
      rw [← Array.forIn_toList]
      refine wpAny_mono (hashBy_keys ks vs.toList n A s hk (by omega)) (fun r s' z => ?_) fun _ _ z => z
      obtain ⟨h1, rfl⟩ : (∃ o, r = (o, ())) ∧ s' = s := z
      obtain ⟨o, rfl⟩ := h1
      cases o with
      | none => exact wpAny_pure (q _)
      | some b => exact wpAny_pure (q _)
theorem hashBy_keys : ∀ (ks : List NestedKey) (vs : List Value) (n : Nat) (A : Around) (s : Shared), NestedAll s.heap ks vs → NestedKey.depthAll ks ≤ n →
    wpAny (model P w) A (forIn vs ((none, ()) : Option Bool × PUnit) fun y r => do
      let b ← hashByValue n y
      if (!b) = true then pure (ForInStep.done (some false, ())) else pure (ForInStep.yield (none, ()))) (fun r s' => (∃ o, r = (o, ())) ∧ s' = s) E s
  | [], _, n, A, s, x, _ => by cases x; exact wpAny_pure ⟨⟨_, rfl⟩, rfl⟩
  | k :: ks, _, n, A, s, x, hn => by
    cases x with
    | cons x1 x2 =>
      simp only [NestedKey.depthAll] at hn
      rw [List.forIn_cons]
      refine wpAny_bind (wpAny_bind (hashBy_key k _ n A s _ x1 (by omega) fun b => ?_))
      cases b with
      | false => exact wpAny_pure (wpAny_pure ⟨⟨_, rfl⟩, rfl⟩)
      | true => exact wpAny_pure (hashBy_keys ks _ n A s x2 (by omega))
end
/-- a tuple that is the key k -/
def IsK (h : Heap) (k : NestedKey) (v : Value) : Prop := ∃ a, v = .ref a ∧ NestedIs h k (.ref a) ∧ k.depth ≤ 8
theorem IsK.inj {h : Heap} {k j : NestedKey} {v : Value} (a : IsK h k v) (b : IsK h j v) : k = j := by
  obtain ⟨x, rfl, a, _⟩ := a
  obtain ⟨y, e, b, _⟩ := b
  cases e
  exact NestedIs.inj _ _ _ a b
/-- the search shows nothing -/
theorem seen_key {A : Around} {s : Shared} {k : NestedKey} {x : Addr} {Q : Bool → Shared → Prop} (hx : IsK s.heap k (.ref x)) (q : Q false s) : ∀ {ys : List Value}, (∀ y ∈ ys, ∃ j, IsK s.heap j y) → wpAny (model P w) A (searchCouldBeSeen (.ref x) ys) Q E s := by
  intro ys hy
  unfold searchCouldBeSeen
  refine wpAny_bind ?_
  refine wpAny_forIn_list _ (fun rest r s' => r = (none, ()) ∧ s' = s ∧ ∀ y ∈ rest, ∃ j, IsK s.heap j y) _ ?_ ?_ _ _ ⟨rfl, rfl, hy⟩
  · rintro y rest r s' ⟨rfl, rfl, all⟩
    have tl : ∀ z ∈ rest, ∃ j, IsK s'.heap j z := fun z hz => all z (.tail _ hz)
    obtain ⟨j, c, rfl, hc, dc⟩ := all y (.head _)
    obtain ⟨x', e, hx, dx⟩ := hx
    cases e
    dsimp only
    split
    · exact wpAny_pure ⟨rfl, rfl, tl⟩
    · refine wpAny_bind (quiet_key (prog := P) (w := w) k _ 8 s' hx dx A E _ ?_)
      simp only [Bool.not_true, Bool.false_eq_true, if_false]
      refine wpAny_bind (quiet_key (prog := P) (w := w) j _ 8 s' hc dc A E _ ?_)
      simp only [Bool.not_true, Bool.false_eq_true, if_false]
      refine wpAny_bind (ofA_key k _ 8 A s' _ hx dx ?_)
      simp only [Bool.false_eq_true, if_false]
      refine wpAny_bind (ofA_key j _ 8 A s' _ hc dc ?_)
      simp only [Bool.false_eq_true, if_false]
      exact wpAny_pure ⟨rfl, rfl, tl⟩
  · rintro r s' ⟨rfl, rfl, _⟩
    exact wpAny_pure q
end
end Ld
/-! text LsB -/
set_option Elab.async false
set_option linter.all false
set_option maxRecDepth 100000
set_option maxHeartbeats 4000000
namespace Ld
open PySem PySem.Spec
open PyProof.Rows hiding St
open L2 (TabOk MaskOk way nth runAt adv)

/-! ### the set of keys at a place -/
structure SetK (w : World) (h : Heap) (a : Addr) (es : Array (Int × Value)) (ep : Nat) (t : SetTable) : Prop where
  ob : ∃ o, h.get? a = some o ∧ o.ExactSet ∧ o.data = .set es ep t
  rows : ∀ e ∈ es.toList, ∃ k : NestedKey, e.1 = k.hash w ∧ IsK h k e.2
  tab : TabOk t (es.toList.map (·.1))
  apart : es.toList.Pairwise fun e f => ∀ k, IsK h k e.2 → ¬ IsK h k f.2
  led : w.params.followText "set-order" = true ∨ t.led = true
  room : es.size * 5 < t.mask * 3
  few : es.size < 64
/-- the key is among them -/
def HasK (h : Heap) (es : Array (Int × Value)) (k : NestedKey) : Prop := ∃ e ∈ es.toList, IsK h k e.2
section
variable {P : Program} {w : World} {A : Around} {E : Value → Shared → Prop} {s : Shared} {a x : Addr} {es : Array (Int × Value)} {ep : Nat} {t : SetTable} {k : NestedKey}
theorem SetK.sz (S : SetK w s.heap a es ep t) : t.place.size = es.size := by
  have := S.tab.sz
  rw [List.length_map, Array.length_toList] at this
  exact this
theorem SetK.fits (S : SetK w s.heap a es ep t) : t.fits es.size = true := by
  have h1 := S.sz
  have h3 := S.room
  unfold SetTable.fits SetTable.fill
  rw [S.tab.dm, Bool.and_eq_true, beq_iff_eq, decide_eq_true_eq]
  exact ⟨h1, by show t.place.size + 0 ≤ t.mask; omega⟩
theorem SetK.gave (S : SetK w s.heap a es ep t) : t.gaveWay = false := by
  unfold SetTable.gaveWay
  rcases S.tab.mok with e | e | e <;> rw [e] <;> decide
/-- the c-th place that a search for the hash looks at -/
abbrev stp (t : SetTable) (g : Int) (c : Nat) : SetTable.Probe := nth t.mask (runAt t.mask (SetTable.bits g % (t.mask + 1)) (SetTable.bits g)) c
theorem stp_add (t : SetTable) (g : Int) (c q : Nat) : nth t.mask (stp t g c) q = stp t g (c + q) := (L2.nth_add _ _ _ _).symm
theorem no_dummy (m : Nat) : ∀ (n : Nat) (p : SetTable.Probe), p.dummy = none → (nth m p n).dummy = none
  | 0, _, h => h
  | n + 1, p, h => no_dummy m n (adv m p) (by unfold adv; split <;> exact h)
/-- THE SEARCH for a key, from its c-th place on -/
theorem srch (S : SetK w s.heap a es ep t) (hx : IsK s.heap k (.ref x)) (hu : A.units + 16 < cLine) {N : Nat} (hN : N < 10 * SetTable.turns t.mask) (hn : (stp t (k.hash w) N).j ∉ t.place.toList)
    (hb : ∀ c, c < N → (stp t (k.hash w) c).j ∈ t.place.toList) {Q : SetFound → Shared → Prop} (yes : HasK s.heap es k → Q (.there none) s) (nay : ¬ HasK s.heap es k → Q (.free (stp t (k.hash w) N).j false) s) :
    ∀ (f c : Nat) (at' : Option SetTable.Probe), at'.getD (t.probeStart (k.hash w)) = stp t (k.hash w) c → c ≤ N → N - c < f →
      (∀ (i : Nat) (e : Int × Value), es.toList[i]? = some e → IsK s.heap k e.2 → ∃ d, c ≤ d ∧ d < N ∧ t.place.toList[i]? = some (stp t (k.hash w) d).j) →
      wpAny (model P w) A (setSearchFrom a (.ref x) (k.hash w) true f at') Q E s := by
  intro f
  induction f with
  | zero => intro c _ _ _ hf _; exact absurd hf (Nat.not_lt_zero _)
  | succ f ih =>
    intro c at' ha hc hf left
    obtain ⟨o, ho, hex, hd⟩ := S.ob
    have hash_at : ∀ (i : Nat) (e : Int × Value), es.toList[i]? = some e → (es[i]?.map (·.1)).getD 0 = e.1 := fun i e h => by
      rw [← Array.getElem?_toList, h]
      rfl
    have spec := L2.go_spec t S.tab.ris S.tab.dm (fun i => (es[i]?.map (·.1)).getD 0) (k.hash w) (10 * SetTable.turns t.mask) (N - c) (stp t (k.hash w) c) (no_dummy _ _ _ rfl) (by omega)
      (fun q hq => by rw [stp_add]; exact hb _ (by omega)) (by rw [stp_add, show c + (N - c) = N by omega]; exact hn)
    simp only [stp_add] at spec
    -- a row with the key is met at a place not yet passed
    have met : ∀ (i : Nat) (e : Int × Value), es.toList[i]? = some e → IsK s.heap k e.2 → ∃ q, q < N - c ∧ t.place.toList[i]? = some (stp t (k.hash w) (c + q)).j ∧ (es[i]?.map (·.1)).getD 0 = k.hash w := fun i e h1 h2 => by
      obtain ⟨d, d1, d2, d3⟩ := left i e h1 h2
      refine ⟨d - c, by omega, by rw [show c + (d - c) = d by omega]; exact d3, ?_⟩
      obtain ⟨j, e1, e2⟩ := S.rows e (List.mem_of_getElem? h1)
      rw [hash_at i e h1, e1, e2.inj h2]
    rw [L2.setSearchFrom_succ]
    refine wpAny_bind (wpAny_setState_of ho hd S.fits ?_)
    dsimp only
    rw [S.gave, ha]
    simp only [Bool.false_eq_true, if_false]
    have prb : t.probe (fun i => (es[i]?.map (·.1)).getD 0) (k.hash w) (stp t (k.hash w) c) = SetTable.probe.go t (fun i => (es[i]?.map (·.1)).getD 0) (k.hash w) (10 * SetTable.turns t.mask) (stp t (k.hash w) c) := rfl
    rw [prb]
    rcases spec with ⟨q, i, hq, hi, hh, hno, hp⟩ | ⟨hno, hp⟩
    · rw [hp]
      dsimp only
      obtain ⟨e, he⟩ : ∃ e, es.toList[i]? = some e := by
        have h1 := (List.getElem?_eq_some_iff.mp hi).1
        rw [Array.length_toList, S.sz] at h1
        exact ⟨_, List.getElem?_eq_getElem (by rw [Array.length_toList]; exact h1)⟩
      have he' : es[i]? = some e := by rw [← Array.getElem?_toList]; exact he
      have hm := List.mem_of_getElem? he
      obtain ⟨j, ej, hj⟩ := S.rows e hm
      obtain ⟨g, y⟩ := e
      obtain ⟨b, eb, nb, db⟩ := hj
      have hj : IsK s.heap j y := ⟨b, eb, nb, db⟩
      dsimp only at eb
      subst eb
      have go : wpAny (model P w) A (L2.searchRest a (.ref x) (k.hash w) true f es t (stp t (k.hash w) (c + q)).j i (stp t (k.hash w) (c + (q + 1)))) Q E s := by
        unfold L2.searchRest
        rw [he']
        dsimp only
        obtain ⟨x', ex, nx, dx⟩ := hx
        cases ex
        refine wpAny_bind (wpAny_holding ((nestedKind P w).eqBool (x := j) (y := k) (show A.units + 8 < cLine by omega) ⟨nb, db⟩ ⟨nx, dx⟩ ?_))
        refine wpAny_bind (wpAny_setState_of ho hd S.fits ?_)
        dsimp only
        by_cases ek : j = k
        · subst ek
          simp only [decide_true, Bool.and_self, if_true]
          exact wpAny_pure (yes ⟨_, hm, hj⟩)
        · rw [decide_eq_false ek]
          simp only [Bool.and_false, Bool.false_eq_true, if_false]
          rw [L2.sameMem]
          dsimp only
          have hsl : t.slot (stp t (k.hash w) (c + q)).j = .live i := L2.slot_live S.tab.ris hi
          simp only [if_true, hsl, he']
          refine wpAny_bind (wpAny_isSame_ref_self (wpAny_bind (wpAny_pure ?_)))
          simp only [if_true]
          refine ih (c + (q + 1)) _ rfl (by omega) (by omega) fun i' e' h1 h2 => ?_
          obtain ⟨q', q1, q2, q3⟩ := met i' e' h1 h2
          refine ⟨c + q', ?_, by omega, q2⟩
          rcases Nat.lt_trichotomy q' q with z | z | z
          · exact absurd q3 (hno q' i' z q2)
          · subst z
            have s0 := L2.slot_live S.tab.ris q2
            rw [hsl] at s0
            injection s0 with s0
            subst s0
            rw [he] at h1
            cases h1
            exact absurd (hj.inj h2) ek
          · omega
      by_cases hl : t.led = true
      · simp only [hl, Bool.not_true, Bool.false_eq_true, if_false]
        exact go
      · simp only [hl, Bool.not_false, if_true]
        refine wpAny_bind (seen_key hx ?_ fun y hy => ?_)
        · simp only [Bool.false_eq_true, if_false]
          exact go
        · obtain ⟨e', he', rfl⟩ := List.mem_map.mp hy
          have : e' ∈ es.toList := by
            have h := (Array.mem_filter.mp (Array.mem_toList_iff.mp he')).1
            exact Array.mem_toList_iff.mpr h
          obtain ⟨j', _, h⟩ := S.rows e' this
          exact ⟨j', h⟩
    · rw [hp]
      dsimp only
      refine wpAny_pure ?_
      rw [show c + (N - c) = N by omega]
      refine nay fun ⟨e, hm, hk⟩ => ?_
      obtain ⟨i, hi⟩ := List.mem_iff_getElem?.mp hm
      obtain ⟨q, q1, q2, q3⟩ := met i e hi hk
      exact hno q i q1 q2 q3
end
end Ld
/-! text LsC -/
set_option Elab.async false
set_option linter.all false
set_option maxRecDepth 100000
set_option maxHeartbeats 4000000
namespace Ld
open PySem PySem.Spec
open PyProof.Rows hiding St
open L2 (TabOk MaskOk way nth runAt adv)
section
variable {P : Program} {w : World} {A : Around} {E : Value → Shared → Prop} {s : Shared} {a x : Addr} {es : Array (Int × Value)} {ep : Nat} {t : SetTable} {k : NestedKey}
theorem srch_at (S : SetK w s.heap a es ep t) (hx : IsK s.heap k (.ref x)) (hu : A.units + 16 < cLine) {Q : SetFound → Shared → Prop} (yes : HasK s.heap es k → Q (.there none) s)
    (nay : ∀ N, ¬ HasK s.heap es k → way t.mask (k.hash w) N ∉ t.place.toList → (∀ c, c < N → way t.mask (k.hash w) c ∈ t.place.toList) → Q (.free (way t.mask (k.hash w) N) false) s) :
    wpAny (model P w) A (setSearch a (.ref x) (k.hash w) true) Q E s := by
  have hr := S.room
  obtain ⟨N, h1, h2, h3⟩ := S.tab.first (by rw [List.length_map, Array.length_toList]; omega) (k.hash w)
  have small : 10 * SetTable.turns t.mask < 100000 := by
    unfold SetTable.turns
    rcases S.tab.mok with e | e | e <;> rw [e] <;> omega
  unfold setSearch
  refine srch S hx hu h1 h2 h3 yes (fun n => nay N n h2 h3) 100000 0 none rfl (Nat.zero_le _) (by omega) fun i e hi hk => ?_
  obtain ⟨j, ej, hj⟩ := S.rows e (List.mem_of_getElem? hi)
  have hg : (es.toList.map (·.1))[i]? = some (k.hash w) := by rw [List.getElem?_map, hi, ← hj.inj hk, ← ej]; rfl
  have hl : i < t.place.toList.length := by
    have := (List.getElem?_eq_some_iff.mp hi).1
    rw [Array.length_toList] at this
    rw [Array.length_toList, S.sz]
    exact this
  obtain ⟨c, c1, c2⟩ := S.tab.before h2 hg (List.getElem?_eq_getElem hl)
  exact ⟨c, Nat.zero_le _, c1, by rw [List.getElem?_eq_getElem hl, ← c2]⟩
/-- a key is no set -/
theorem IsK.but {h h' : Heap} {v : Value} {o : Obj} (x : IsK h k v) (ho : h.get? a = some o) (hd : o.data = .set es ep t) (sb : Heap.SameBut a h h') : IsK h' k v := by
  obtain ⟨b, rfl, x, d⟩ := x
  refine ⟨b, rfl, x.at (fun c u vs n e1 e2 => ?_) k _, d⟩
  refine (sb.2 c fun z => ?_).trans e1
  subst z
  rw [ho] at e1
  cases e1
  rw [hd] at e2
  cases e2
theorem apart_perm {h : Heap} {l r : List (Int × Value)} (p : l.Perm r) (a : r.Pairwise fun e f => ∀ k, IsK h k e.2 → ¬ IsK h k f.2) : l.Pairwise fun e f => ∀ k, IsK h k e.2 → ¬ IsK h k f.2 :=
  (List.Perm.pairwise_iff (fun {x y} z k h1 h2 => z k h2 h1) p).mpr a
/-- what is taken by an order of all places -/
theorem by_order (es : Array (Int × Value)) (order : Array Nat) (hp : order.toList.Perm (List.range es.size)) :
    (order.filterMap (es[·]?)).toList.Perm es.toList ∧ (order.filterMap (es[·]?)).toList.map (·.1) = order.toList.map fun i => (es.map (·.1)).getD i 0 := by
  have e1 : (order.filterMap (es[·]?)).toList = order.toList.filterMap fun i => es.toList[i]? := by
    rw [Array.toList_filterMap]
    congr 1
    funext i
    rw [Array.getElem?_toList]
  have e2 : ∀ l : List (Int × Value), (List.range l.length).filterMap (fun i => l[i]?) = l := fun l => by
    induction l with
    | nil => rfl
    | cons y r ih =>
      rw [List.length_cons, List.range_succ_eq_map, List.filterMap_cons_some (by rfl), List.filterMap_map]
      congr 1
  constructor
  · rw [e1]
    have := hp.filterMap fun i => es.toList[i]?
    rw [show es.size = es.toList.length from (Array.length_toList).symm, e2] at this
    exact this
  · rw [e1]
    have all : ∀ i ∈ order.toList, i < es.size := fun i hi => List.mem_range.mp (hp.mem_iff.mp hi)
    generalize order.toList = l at all
    induction l with
    | nil => rfl
    | cons i r ih =>
      have hi := all i (.head _)
      have h1 : es.toList[i]? = some es[i] := by rw [Array.getElem?_toList]; exact Array.getElem?_eq_getElem hi
      rw [List.filterMap_cons_some h1, List.map_cons, List.map_cons, ih fun j hj => all j (.tail _ hj)]
      congr 1
      simp [hi]
/-- all laid anew in a larger table -/
theorem relay {o : Obj} (ho : s.heap.get? a = some o) (hex : o.ExactSet) (hd : o.data = .set es ep t) (rows : ∀ e ∈ es.toList, ∃ k : NestedKey, e.1 = k.hash w ∧ IsK s.heap k e.2)
    (sz : t.place.size = es.size) (dm : t.dummies = #[]) (fl : es.size ≤ t.mask) (apart : es.toList.Pairwise fun e f => ∀ k, IsK s.heap k e.2 → ¬ IsK s.heap k f.2)
    (led : w.params.followText "set-order" = true ∨ t.led = true) (few : es.size < 64) {n M : Nat} (hw : SetTable.sizeAbove n - 1 = M) (hM : MaskOk M) (hn : SetTable.sizeAbove n ≤ 128) (hr : es.size * 5 < M * 3) {Q : Unit → Shared → Prop}
    (q : ∀ h' es' ep' t', Heap.SameBut a s.heap h' → SetK w h' a es' ep' t' → es'.toList.Perm es.toList → Q () { s with heap := h' }) : wpAny (model P w) A (setRelay a n) Q E s := by
  have fits : t.fits es.size = true := by
    unfold SetTable.fits SetTable.fill
    rw [dm, Bool.and_eq_true, beq_iff_eq, decide_eq_true_eq]
    exact ⟨sz, by show t.place.size + 0 ≤ t.mask; omega⟩
  obtain ⟨t', order, e, hp, T, em, el, _, _⟩ := L2.relaid_ok t (hs := es.map (·.1)) (wanted := n) hw hM (by rw [Array.size_map]; omega)
  rw [Array.size_map] at hp
  obtain ⟨p1, p2⟩ := by_order es order hp
  rw [← p2] at T
  have sz' : (order.filterMap (es[·]?)).size = es.size := by rw [← Array.length_toList, p1.length_eq, Array.length_toList]
  rw [L2.setRelay_eq]
  refine wpAny_bind (wpAny_setState_of ho hd fits ?_)
  dsimp only
  rw [if_neg (by rw [sizeLine_eq]; omega), e]
  dsimp only
  rw [if_neg (by rw [sz']; simp)]
  simp only [pure_bind]
  refine wpAny_storeSet_of ho hd ?_ (by rw [sz', sizeLine_eq]; omega)
  generalize order.filterMap (es[·]?) = es' at *
  have sb : Heap.SameBut a s.heap (s.heap.update a (Obj.putSet es' t')) := Heap.SameBut.update ..
  refine q _ es' (ep + 1) t' sb ?_ p1
  exact {
    ob := ⟨_, L2.store_at ho hd, ⟨hex.1, hex.2.1, hex.2.2⟩, rfl⟩
    rows := fun e he => by
      obtain ⟨j, h1, h2⟩ := rows e (p1.mem_iff.mp he)
      exact ⟨j, h1, h2.but ho hd sb⟩
    tab := T
    apart := by
      refine List.Pairwise.imp_of_mem (fun {e f} he hf z j h1 h2 => ?_) (apart_perm p1 apart)
      obtain ⟨j1, _, k1⟩ := rows e (p1.mem_iff.mp he)
      obtain ⟨j2, _, k2⟩ := rows f (p1.mem_iff.mp hf)
      rw [(k1.but ho hd sb).inj h1] at k1
      rw [(k2.but ho hd sb).inj h2] at k2
      exact z j k1 k2
    led := by rw [el]; exact led
    room := by rw [sz', em]; exact hr
    few := by rw [sz']; exact few }
/-- a key is added -/
theorem add_key (S : SetK w s.heap a es ep t) (hx : IsK s.heap k (.ref x)) (hu : A.units + 16 < cLine) (few : es.size + 1 < 64) {Q : Bool → Shared → Prop}
    (q : ∀ b h' es' ep' t', Heap.SameBut a s.heap h' → SetK w h' a es' ep' t' → (HasK s.heap es k → es' = es) → (¬ HasK s.heap es k → es'.toList.Perm ((k.hash w, .ref x) :: es.toList)) → Q b { s with heap := h' }) :
    wpAny (model P w) A (setAddHashed a (.ref x) (k.hash w)) Q E s := by
  obtain ⟨o, ho, hex, hd⟩ := S.ob
  have hr := S.room
  unfold setAddHashed
  refine wpAny_holding ?_
  rw [show (100000 : Nat) = 99999 + 1 from rfl, L2.setAddHashedIn_succ]
  refine wpAny_bind (wpAny_setState_of ho hd S.fits ?_)
  dsimp only
  rw [if_neg (by simp [byScan, Value.scannable])]
  try simp only [pure_bind]
  refine wpAny_bind (srch_at S hx hu (fun hm => ?_) fun N hm h1 h2 => ?_)
  · exact wpAny_pure (q false s.heap es ep t (Heap.SameBut.refl a s.heap) S (fun _ => rfl) fun z => absurd hm z)
  · dsimp only
    refine wpAny_bind (wpAny_setState_of ho hd S.fits ?_)
    dsimp only
    obtain ⟨q1, q2, q3, q4, q5, q6, q7, q8, q9⟩ := S.tab.put h1 h2
    generalize t.put (way t.mask (k.hash w) N) = pt at q1 q3 q4 q5 q6 q7 q8 q9 ⊢
    obtain ⟨t1, p⟩ := pt
    dsimp only at q1 q3 q4 q5 q6 q7 q8 q9 ⊢
    subst q1
    generalize SetTable.below t.place (way t.mask (k.hash w) N) = p at q2 q3 ⊢
    have pm : (SetTable.insertAt es p (k.hash w, Value.ref x)).toList.Perm ((k.hash w, .ref x) :: es.toList) := by
      rw [SetTable.toList_insertAt]
      exact L2.put_perm _ _ _
    have mp : (SetTable.insertAt es p (k.hash w, Value.ref x)).toList.map (·.1) = (es.toList.map (·.1)).take p ++ k.hash w :: (es.toList.map (·.1)).drop p := by
      rw [SetTable.toList_insertAt, List.map_append, List.map_cons, List.map_take, List.map_drop]
    rw [← mp] at q3
    generalize SetTable.insertAt es p (k.hash w, Value.ref x) = e1 at pm q3 ⊢
    rw [List.length_map, Array.length_toList] at q9
    have z1 : e1.size = es.size + 1 := by
      have := pm.length_eq
      rw [List.length_cons, Array.length_toList, Array.length_toList] at this
      exact this
    obtain ⟨x', ex, nx, dx⟩ := id hx
    cases ex
    -- whichever way the hash is found, the table differs in that mark alone
    have main : ∀ pl : Bool, wpAny (model P w) A (do
        storeSet a e1 { t1 with plain := pl }
        if (!false && ({ t1 with plain := pl } : SetTable).tooFull) = true then setRelay a (SetTable.grown (es.size + 1))
        return true) Q E s := fun pl => by
      have T : TabOk { t1 with plain := pl } (e1.toList.map (·.1)) := ⟨q3.ris, q3.dm, q3.sz, q3.mok, q3.bd, q3.reach⟩
      have fl : ({ t1 with plain := pl } : SetTable).fill = es.size + 1 := q9
      have mk : ({ t1 with plain := pl } : SetTable).mask = t.mask := q4
      have ld : w.params.followText "set-order" = true ∨ ({ t1 with plain := pl } : SetTable).led = true := by
        show _ ∨ t1.led = true
        rw [q5]
        exact S.led
      generalize ({ t1 with plain := pl } : SetTable) = t2 at T fl mk ld ⊢
      refine wpAny_bind (wpAny_storeSet_of ho hd ?_ (by rw [z1, sizeLine_eq]; omega))
      have sb : Heap.SameBut a s.heap (s.heap.update a (Obj.putSet e1 t2)) := Heap.SameBut.update ..
      have ho1 := L2.store_at (es' := e1) (t' := t2) ho hd
      generalize s.heap.update a (Obj.putSet e1 t2) = h1 at sb ho1 ⊢
      have rows1 : ∀ e ∈ e1.toList, ∃ j : NestedKey, e.1 = j.hash w ∧ IsK s.heap j e.2 := fun e he => by
        rcases List.mem_cons.mp (pm.mem_iff.mp he) with rfl | he
        · exact ⟨k, rfl, hx⟩
        · exact S.rows e he
      have rows2 : ∀ e ∈ e1.toList, ∃ j : NestedKey, e.1 = j.hash w ∧ IsK h1 j e.2 := fun e he => by
        obtain ⟨j, r1, r2⟩ := rows1 e he
        exact ⟨j, r1, r2.but ho hd sb⟩
      have ap : e1.toList.Pairwise fun e f => ∀ j, IsK h1 j e.2 → ¬ IsK h1 j f.2 := by
        have h0 : e1.toList.Pairwise fun e f => ∀ j, IsK s.heap j e.2 → ¬ IsK s.heap j f.2 := by
          refine apart_perm pm (List.pairwise_cons.mpr ⟨fun f hf j k1 k2 => ?_, S.apart⟩)
          rw [← hx.inj k1] at k2
          exact hm ⟨f, hf, k2⟩
        refine List.Pairwise.imp_of_mem (fun {e f} he hf z j g1 g2 => ?_) h0
        obtain ⟨j1, _, k1⟩ := rows1 e he
        obtain ⟨j2, _, k2⟩ := rows1 f hf
        rw [(k1.but ho hd sb).inj g1] at k1
        rw [(k2.but ho hd sb).inj g2] at k2
        exact z j k1 k2
      have sz2 : t2.place.size = e1.size := by
        have := T.sz
        rw [List.length_map, Array.length_toList] at this
        exact this
      by_cases hf : t2.tooFull = true
      · simp only [hf, Bool.not_false, Bool.and_self, if_true]
        have full : (es.size + 1) * 5 ≥ t.mask * 3 := by
          have h := hf
          unfold SetTable.tooFull at h
          rw [decide_eq_true_eq, fl, mk] at h
          exact h
        have go : ∀ M, SetTable.sizeAbove (SetTable.grown (es.size + 1)) - 1 = M → MaskOk M → SetTable.sizeAbove (SetTable.grown (es.size + 1)) ≤ 128 → (es.size + 1) * 5 < M * 3 → es.size + 1 ≤ t.mask →
            wpAny (model P w) A (setRelay a (SetTable.grown (es.size + 1)) >>= fun _ => pure true) Q E { s with heap := h1 } := fun M m1 m2 m3 m4 m5 => by
          refine wpAny_bind (relay (s := { s with heap := h1 }) ho1 ⟨hex.1, hex.2.1, hex.2.2⟩ rfl rows2 sz2 T.dm (by rw [z1, mk]; exact m5) ap ld (by rw [z1]; exact few) m1 m2 m3 (by rw [z1]; exact m4) fun h2 es2 ep2 t3 sb2 S2 pm2 => ?_)
          exact wpAny_pure (q true h2 es2 ep2 t3 (sb.trans sb2) S2 (fun z => absurd z hm) fun _ => pm2.trans pm)
        rcases S.tab.mok with e | e | e
        · rw [e] at full hr
          have : es.size = 4 := by omega
          exact go 31 (by rw [this, L2.size_20]) (.inr (.inl rfl)) (by rw [this, L2.size_20]; decide) (by omega) (by rw [e]; omega)
        · rw [e] at full hr
          have : es.size = 18 := by omega
          exact go 127 (by rw [this, L2.size_76]) (.inr (.inr rfl)) (by rw [this, L2.size_76]; decide) (by omega) (by rw [e]; omega)
        · rw [e] at full
          omega
      · simp only [hf, Bool.not_false, Bool.and_false, Bool.false_eq_true, if_false]
        refine wpAny_pure (q true h1 e1 (ep + 1) t2 sb ⟨⟨_, ho1, ⟨hex.1, hex.2.1, hex.2.2⟩, rfl⟩, rows2, T, ap, ld, ?_, by rw [z1]; exact few⟩ (fun z => absurd z hm) fun _ => pm)
        have h := hf
        unfold SetTable.tooFull at h
        rw [decide_eq_true_eq, fl, mk] at h
        rw [z1, mk]
        omega
    by_cases pl : t1.plain = true
    · simp only [pl, if_true]
      refine wpAny_bind (hashBy_key k _ 8 A s _ nx dx fun b => ?_)
      cases b with
      | true =>
        have := main t1.plain
        rw [show ({ t1 with plain := t1.plain } : SetTable) = t1 from rfl] at this
        simpa only [if_true] using this
      | false =>
        have := main false
        simpa only [Bool.false_eq_true, if_false] using this
    · simp only [pl, if_false, pure_bind, if_true]
      have := main t1.plain
      rw [show ({ t1 with plain := t1.plain } : SetTable) = t1 from rfl] at this
      exact this
end
end Ld
/-! text LsD -/
set_option Elab.async false
set_option linter.all false
set_option maxRecDepth 100000
set_option maxHeartbeats 4000000
namespace Ld
open PySem PySem.Spec
open PyProof.Rows hiding St

/-! ### a set made of keys -/
/-- what a set has got from these keys: the values -/
structure GotK (h : Heap) (es : Array (Int × Value)) (vs : List Value) (ks : List NestedKey) : Prop where
  sub : ∀ e ∈ es.toList, e.2 ∈ vs
  all : ∀ k ∈ ks, HasK h es k
  own : ∃ ls : List NestedKey, ls.Nodup ∧ ls.length = es.size ∧ ∀ j ∈ ls, j ∈ ks ∧ HasK h es j
/-- at most 62 keys, each counted once -/
def FewK (ks : List NestedKey) : Prop := ∀ ls : List NestedKey, ls.Nodup → (∀ j ∈ ls, j ∈ ks) → ls.length < 63
/-- values that are keys, one by one -/
abbrev AreK (h : Heap) (vs : List Value) (ks : List NestedKey) : Prop := Paired (fun v k => IsK h k v) vs ks
theorem IsK.keep {h h' : Heap} {k : NestedKey} {v : Value} (x : IsK h k v) (hk : ∀ b o, h.get? b = some o → h'.get? b = some o) : IsK h' k v := by
  obtain ⟨b, rfl, x, d⟩ := x
  exact ⟨b, rfl, x.at (fun c u vs n e1 _ => hk c u e1) k _, d⟩
theorem paired_at {α β : Type} {F : α → β → Prop} {l : List α} {r : List β} (p : Paired F l r) : ∀ {i : Nat} {x : α}, l[i]? = some x → ∃ y, r[i]? = some y ∧ F x y := by
  induction p with
  | nil => intro i x h; simp at h
  | cons a _ ih =>
    intro i x h
    cases i with
    | zero => simp at h; subst h; exact ⟨_, rfl, a⟩
    | succ i => obtain ⟨y, h1, h2⟩ := ih (by simpa using h); exact ⟨y, by simpa using h1, h2⟩
theorem take_one {α : Type} {l : List α} {i : Nat} {x : α} (h : l[i]? = some x) : l.take (i + 1) = l.take i ++ [x] := by
  rw [List.take_succ, h]
  rfl
section
variable {P : Program} {w : World} {A : Around} {E : Value → Shared → Prop} {s : Shared}
theorem SetK.keep {h h' : Heap} {a : Addr} {es : Array (Int × Value)} {ep : Nat} {t : SetTable} (S : SetK w h a es ep t) (ha : ∀ o, h.get? a = some o → h'.get? a = some o) (hk : ∀ e ∈ es.toList, ∀ k, IsK h k e.2 → IsK h' k e.2) : SetK w h' a es ep t where
  ob := let ⟨o, h1, h2⟩ := S.ob; ⟨o, ha o h1, h2⟩
  rows := fun e he => let ⟨k, h1, h2⟩ := S.rows e he; ⟨k, h1, hk e he k h2⟩
  tab := S.tab
  apart := by
    refine List.Pairwise.imp_of_mem (fun {e f} he hf z j g1 g2 => ?_) S.apart
    obtain ⟨j1, _, k1⟩ := S.rows e he
    obtain ⟨j2, _, k2⟩ := S.rows f hf
    rw [(hk e he _ k1).inj g1] at k1
    rw [(hk f hf _ k2).inj g2] at k2
    exact z j k1 k2
  led := S.led
  room := S.room
  few := S.few
theorem setK_new {h : Heap} {a : Addr} (ho : h.get? a = some { cls := .type "set", dict := none, data := .set #[] 0 (.fresh 0 0 (!w.params.followText "set-order")) }) : SetK w h a #[] 0 (.fresh 0 0 (!w.params.followText "set-order")) where
  ob := ⟨_, ho, ⟨rfl, rfl, rfl⟩, rfl⟩
  rows := fun e he => by cases he
  tab := ⟨.nil, rfl, rfl, .inl rfl, fun y hy => (by cases hy), fun i g j hi _ => (by simp at hi)⟩
  apart := .nil
  led := by
    cases q : w.params.followText "set-order" with
    | true => exact .inl rfl
    | false => exact .inr rfl
  room := by show 0 * 5 < 7 * 3; omega
  few := by show 0 < 64; omega
/-- the loop of set.update -/
theorem upd_keys {I : Addr} {fp wr : List Addr} {G : Array GenState → Array GenState → Prop} {n : Nat} {Pv : Nat → Value → Prop} {St : Nat → Shared → Prop} {R : Result → Shared → Prop}
    (W : WalksS P w A.in1 I fp wr G n Pv St) (S : Addr) (hS : S ∉ fp) {h0 : Heap} {vs : List Value} {ks : List NestedKey} (K : AreK h0 vs ks) (hn : n = vs.length) (few : FewK ks) (hv : ∀ i v, Pv i v → vs[i]? = some v)
    (new : h0.get? S = none) (wr0 : ∀ b ∈ wr, h0.get? b = none) (hu : A.units + 40 < cLine) : ∀ (m i : Nat) (s : Shared), n - i = m → i ≤ n → St i s → (∀ b o, h0.get? b = some o → s.heap.get? b = some o) →
      (∃ es ep t, SetK w s.heap S es ep t ∧ GotK h0 es (vs.take i) (ks.take i)) →
      (∀ s' es ep t, Moved (S :: wr) G s s' → SetK w s'.heap S es ep t → GotK h0 es vs ks → (∀ b o, h0.get? b = some o → s'.heap.get? b = some o) → R (.ok (.ret .none)) s') →
      codeAny (model P w) A (.builtin "set.update.loop" ⟨[.ref S, .ref I], []⟩) R s := by
  have out : S ∉ wr := fun h => hS (W.sub _ h)
  have lk : vs.length = ks.length := Paired.length K
  have kept : ∀ {s s' : Shared}, Moved wr G s s' → (∀ b o, h0.get? b = some o → s.heap.get? b = some o) → ∀ b o, h0.get? b = some o → s'.heap.get? b = some o := fun m k b o e =>
    m.heap b o (fun z => by rw [wr0 b z] at e; cases e) (k b o e)
  have mem : ∀ v ∈ vs, ∃ k, IsK h0 k v := fun v hv => by
    obtain ⟨i, hi⟩ := List.mem_iff_getElem?.mp hv
    obtain ⟨k, _, h⟩ := paired_at K hi
    exact ⟨k, h⟩
  -- a row of the set stays a key on any later heap
  have stay : ∀ {h h' : Heap} {es : Array (Int × Value)}, (∀ e ∈ es.toList, e.2 ∈ vs) → (∀ b o, h0.get? b = some o → h.get? b = some o) → (∀ b o, h0.get? b = some o → h'.get? b = some o) → ∀ e ∈ es.toList, ∀ k, IsK h k e.2 → IsK h' k e.2 := fun sub k1 k2 e he k hk => by
    obtain ⟨j, hj⟩ := mem _ (sub e he)
    rw [hk.inj (hj.keep k1)]
    exact hj.keep k2
  intro m
  induction m with
  | zero =>
    intro i s hm hi hst kp ⟨es, ep, t, SK, g⟩ fin
    obtain rfl : i = n := by omega
    rw [hn, List.take_length, lk, List.take_length] at g
    refine codeAny_builtin F.entry_set_update_loop ?_
    rw [Around.under_plainId F.plain_set_update_loop _]
    show wpAny _ A.in1 (pyNext (.ref I) >>= _) _ _ s
    refine wpAny_bind (W.done s _ _ hst fun s' mv => ?_)
    have kp' := kept mv kp
    exact wpAny_pure (fin s' es ep t (mv.mono fun b hb => .tail _ hb) (SK.keep (fun o e => mv.heap S o out e) (stay g.sub kp kp')) g kp')
  | succ m ih =>
    intro i s hm hi hst kp ⟨es, ep, t, SK, g⟩ fin
    have lt : i < n := by omega
    refine codeAny_builtin F.entry_set_update_loop ?_
    rw [Around.under_plainId F.plain_set_update_loop _]
    show wpAny _ A.in1 (pyNext (.ref I) >>= _) _ _ s
    refine wpAny_bind (W.item i s _ _ lt hst fun v s' hP hst' mv => ?_)
    have hvi := hv i v hP
    obtain ⟨k, hki, hk⟩ := paired_at K hvi
    have kp' := kept mv kp
    have sub : ∀ e ∈ es.toList, e.2 ∈ vs := fun e he => List.mem_of_mem_take (g.sub e he)
    have SK' : SetK w s'.heap S es ep t := SK.keep (fun o e => mv.heap S o out e) (stay sub kp kp')
    obtain ⟨ls, l1, l2, l3⟩ := g.own
    have gl : es.size < 63 := by rw [← l2]; exact few ls l1 fun j hj => List.mem_of_mem_take (l3 j hj).1
    have hk' := hk.keep kp'
    obtain ⟨x, rfl, nx, dx⟩ := id hk'
    show wpAny _ A.in1 (holding [Value.ref x] (setAdd S (.ref x)) >>= _) _ _ s'
    refine wpAny_bind (wpAny_holding ?_)
    unfold setAdd
    refine wpAny_holding ?_
    have ur : A.in1.units + 30 < cLine := by rw [Around.in1_units]; omega
    refine wpAny_bind (pyHash_key k _ _ s' _ nx (by omega) ?_)
    refine add_key (s := { s' with toks := s'.toks + k.draws }) SK' hk' (by omega) (by omega) fun b h' es' ep' t' sb S2 c1 c2 => ?_
    have kp2 : ∀ b o, h0.get? b = some o → h'.get? b = some o := fun b o e => (sb.2 b (fun z => by rw [z, new] at e; cases e)).trans (kp' b o e)
    have back : ∀ j, HasK s'.heap es j → HasK h0 es j := fun j ⟨e, he, h⟩ => by
      obtain ⟨j', hj⟩ := mem _ (sub e he)
      rw [h.inj (hj.keep kp')]
      exact ⟨e, he, hj⟩
    have g' : GotK h0 es' (vs.take (i + 1)) (ks.take (i + 1)) := by
      rw [take_one hvi, take_one hki]
      rcases Classical.em (HasK s'.heap es k) with c | c
      · rw [c1 c]
        refine ⟨fun e he => List.mem_append_left _ (g.sub e he), fun j hj => ?_, ⟨ls, l1, l2, fun j hj => ⟨List.mem_append_left _ (l3 j hj).1, (l3 j hj).2⟩⟩⟩
        rcases List.mem_append.mp hj with z | z
        · exact g.all j z
        · rw [List.mem_singleton.mp z]
          exact back _ c
      · have pm := c2 c
        refine ⟨fun e he => ?_, fun j hj => ?_, ?_⟩
        · rcases List.mem_cons.mp (pm.mem_iff.mp he) with rfl | z
          · exact List.mem_append_right _ (.head _)
          · exact List.mem_append_left _ (g.sub e z)
        · rcases List.mem_append.mp hj with z | z
          · obtain ⟨e, he, h⟩ := g.all j z
            exact ⟨e, pm.mem_iff.mpr (.tail _ he), h⟩
          · rw [List.mem_singleton.mp z]
            exact ⟨_, pm.mem_iff.mpr (.head _), hk⟩
        · have e3 := pm.length_eq
          rw [Array.length_toList, List.length_cons, Array.length_toList] at e3
          refine ⟨k :: ls, List.nodup_cons.mpr ⟨fun hm => c ?_, l1⟩, by rw [List.length_cons, l2, e3], fun j hj => ?_⟩
          · obtain ⟨e, he, h⟩ := (l3 k hm).2
            exact ⟨e, he, h.keep kp'⟩
          · rcases List.mem_cons.mp hj with rfl | hj
            · exact ⟨List.mem_append_right _ (.head _), _, pm.mem_iff.mpr (.head _), hk⟩
            · obtain ⟨e, he, h⟩ := (l3 j hj).2
              exact ⟨List.mem_append_left _ (l3 j hj).1, e, pm.mem_iff.mpr (.tail _ he), h⟩
    refine wpAny_pure ⟨plainId_quiet F.plain_set_update_loop _, ih (i + 1) _ (by omega) lt (W.frame _ s' _ _ hst' (Nat.le_add_right _ _) fun b hb o e => ?_) kp2 ⟨es', ep', t', S2, g'⟩ fun s2 e2 p2 t2 mv2 S3 g3 kp3 => ?_⟩
    · exact (sb.2 b fun z => hS (by rw [← z]; exact hb)).trans e
    · refine fin s2 e2 p2 t2 (Moved.trans W.gtrans ((mv.mono fun b hb => .tail _ hb).then_heap (Nat.le_add_right _ _) fun b o hb e => ?_) mv2) S3 g3 kp3
      exact (sb.2 b fun z => hb (by rw [z]; exact .head _)).trans e
set_option maxHeartbeats 8000000 in
/-- set(xs), a list of keys -/
theorem set_list {l : Addr} {items : Array Value} {ks : List NestedKey} {Q : Value → Shared → Prop} (hh : A.handled = none) (hl : s.heap.IsList l items) (K : AreK s.heap items.toList ks) (few : FewK ks) (hu : A.units + 60 < cLine)
    (q : ∀ (h' : Heap) (tk : Nat) es ep t, SetK w h' s.heap.objs.size es ep t → GotK s.heap es items.toList ks → (∀ b o, s.heap.get? b = some o → h'.get? b = some o) → Q (.ref s.heap.objs.size) { s with heap := h', toks := tk }) :
    wpAny (model P w) A (call (.type "set") [.ref l]) Q E s := by
  obtain ⟨c, tl, mro⟩ := F.called_set.mro
  have made := F.called_set.made
  have isub := F.called_set.sub
  have f1 := F.called_set.notType
  have f2 := F.called_set.canCreate
  have f3 := F.typeCall_set_1 (.ref l)
  refine wpAny_call (codeAny_of_tree ?_)
  show wpAny _ _ (callAny (.type "set") _) _ _ _
  refine wpAny_pure ⟨Code.quiet_builtin _ (by decide +kernel), codeAny_builtin F.entry_type_call ?_⟩
  rw [Around.under_plain (weight_type_call_type "set" [.ref l] []) rfl]
  repeat (any_goals (first | assumption | wp_step))
  refine codeAny_mono (L2.code_set_led1 (.ref l) (E := E) (Q₁ := fun u s1 => u = .ref s.heap.objs.size ∧ s1 = { s with heap := s.heap.push { cls := .type "set", dict := none, data := .set #[] 0 (.fresh 0 0 (!w.params.followText "set-order")) } }) ⟨rfl, rfl⟩) fun r s1 hr => ?_
  rcases r with e | ⟨_ | u | _ | _⟩ <;> first | exact hr | exact hr.elim | skip
  · obtain ⟨rfl, rfl⟩ := hr
    generalize hN : ({ cls := .type "set", dict := none, data := .set #[] 0 (.fresh 0 0 (!w.params.followText "set-order")) } : Obj) = N
    have at' : (s.heap.push N).get? s.heap.objs.size = some N := Heap.get?_push_size _ (by rw [← hN]; rfl)
    have hT : Shared.TypeIs { s with heap := s.heap.push N } (.ref s.heap.objs.size) "set" := ⟨_, at', by rw [← hN]⟩
    have li := F.called_set.init.lookup
    have bi := F.called_set.init.bind (.ref s.heap.objs.size)
    repeat (any_goals (first | assumption | wp_step))
    refine codeAny_mono (codeAny_call_builtin (R := wants (fun r s2 => r = .none ∧ ∃ h' tk es ep t, s2 = { s with heap := h', toks := tk } ∧ SetK w h' s.heap.objs.size es ep t ∧ GotK s.heap es items.toList ks ∧ ∀ b o, s.heap.get? b = some o → h'.get? b = some o) E) F.called_set.init.plain F.entry_set_init (check_set_init_1 hT ?_)) fun r s2 hr2 => ?_
    · obtain ⟨⟨oc, od, oo, os⟩, hol, hcl, nl, hdl⟩ := hl
      simp only at hcl hdl
      subst hcl hdl
      have hl1 : (s.heap.push N).IsList l items := ⟨_, Heap.get?_push_of_some _ hol, rfl, nl, rfl⟩
      have hl2 : (s.heap.push N).get? l = some { cls := .type "list", dict := od, data := .seq items nl, slots := os } := Heap.get?_push_of_some _ hol
      have g1 := F.sub_list_set
      have g2 := F.sub_list_frozenset
      have g3 : (Value.type "list" == Value.type "dict") = false := by decide
      have lS : l < s.heap.objs.size := Heap.lt_size hol
      have h3 : A.in1.in1.in1.handled = none := by simp [hh]
      have zN : (s.heap.push N).objs.size = s.heap.objs.size + 1 := Heap.size_push ..
      have gone : ∀ b, s.heap.objs.size ≤ b → s.heap.get? b = none := fun b hb => by
        cases e : s.heap.get? b with
        | none => rfl
        | some o => exact absurd (Heap.lt_size e) (Nat.not_lt.mpr hb)
      subst hN
      unfold Builtin.«set.__init__» noKeywords Builtin.Frozenset.updateFrom
      generalize hPI : pyIter = PI
      wp_walk
      subst hPI
      refine wpAny_pyIter_list hl1 ?_
      refine wpAny_bind (wpAny_runValue ?_)
      refine upd_keys ((Walks.list h3 _ l (by rw [zN]; exact Nat.ne_of_lt (Nat.lt_succ_of_lt lS)) items).toS) s.heap.objs.size (by simp only [zN, List.mem_cons, List.not_mem_nil, or_false, not_or]; exact ⟨Nat.ne_of_lt (Nat.lt_succ_self _), Nat.ne_of_gt lS⟩) K (by simp) few (fun i v hv => by rw [Array.getElem?_toList]; exact hv)
        (gone _ (Nat.le_refl _)) (fun b hb => gone b (by rw [List.mem_singleton.mp hb, zN]; exact Nat.le_succ _)) (by simp only [Around.in1_units]; omega) (items.size - 0) 0 _ rfl (Nat.zero_le _)
        ⟨⟨_, Heap.get?_push_size _ rfl, rfl, rfl⟩, hl1.push _⟩ (fun b o e => Heap.get?_push_of_some _ (Heap.get?_push_of_some _ e)) ⟨#[], 0, _, setK_new (Heap.get?_push_of_some _ at'), ⟨fun e he => (by cases he), fun j hj => (by simp at hj), ⟨[], List.nodup_nil, rfl, fun j hj => (by cases hj)⟩⟩⟩ ?_
      intro s' es ep t mv SK g kp
      obtain ⟨h', g', d', tk', os'⟩ := s'
      have eg : g' = s.gens := mv.gens
      have ed : d' = s.drawn := mv.drawn
      have eo : os' = s.os := mv.os
      subst eg ed eo
      exact wpAny_pure (wpAny_pure ⟨rfl, h', tk', es, ep, t, rfl, SK, g, kp⟩)
    · rcases r with e | ⟨_ | r | _ | _⟩ <;> first | exact hr2 | exact hr2.elim | skip
      · obtain ⟨rfl, h', tk, es, ep, t, rfl, SK, g, kp⟩ := hr2
        repeat (any_goals (first | assumption | wp_step))
        exact q _ _ _ _ _ SK g kp
set_option maxHeartbeats 8000000 in
/-- set(xs), a tuple of keys -/
theorem set_tuple {l : Addr} {items : Array Value} {ks : List NestedKey} {Q : Value → Shared → Prop} (hh : A.handled = none) (hl : s.heap.IsTuple l items) (K : AreK s.heap items.toList ks) (few : FewK ks) (hu : A.units + 60 < cLine)
    (q : ∀ (h' : Heap) (tk : Nat) es ep t, SetK w h' s.heap.objs.size es ep t → GotK s.heap es items.toList ks → (∀ b o, s.heap.get? b = some o → h'.get? b = some o) → Q (.ref s.heap.objs.size) { s with heap := h', toks := tk }) :
    wpAny (model P w) A (call (.type "set") [.ref l]) Q E s := by
  obtain ⟨c, tl, mro⟩ := F.called_set.mro
  have made := F.called_set.made
  have isub := F.called_set.sub
  have f1 := F.called_set.notType
  have f2 := F.called_set.canCreate
  have f3 := F.typeCall_set_1 (.ref l)
  refine wpAny_call (codeAny_of_tree ?_)
  show wpAny _ _ (callAny (.type "set") _) _ _ _
  refine wpAny_pure ⟨Code.quiet_builtin _ (by decide +kernel), codeAny_builtin F.entry_type_call ?_⟩
  rw [Around.under_plain (weight_type_call_type "set" [.ref l] []) rfl]
  repeat (any_goals (first | assumption | wp_step))
  refine codeAny_mono (L2.code_set_led1 (.ref l) (E := E) (Q₁ := fun u s1 => u = .ref s.heap.objs.size ∧ s1 = { s with heap := s.heap.push { cls := .type "set", dict := none, data := .set #[] 0 (.fresh 0 0 (!w.params.followText "set-order")) } }) ⟨rfl, rfl⟩) fun r s1 hr => ?_
  rcases r with e | ⟨_ | u | _ | _⟩ <;> first | exact hr | exact hr.elim | skip
  · obtain ⟨rfl, rfl⟩ := hr
    generalize hN : ({ cls := .type "set", dict := none, data := .set #[] 0 (.fresh 0 0 (!w.params.followText "set-order")) } : Obj) = N
    have at' : (s.heap.push N).get? s.heap.objs.size = some N := Heap.get?_push_size _ (by rw [← hN]; rfl)
    have hT : Shared.TypeIs { s with heap := s.heap.push N } (.ref s.heap.objs.size) "set" := ⟨_, at', by rw [← hN]⟩
    have li := F.called_set.init.lookup
    have bi := F.called_set.init.bind (.ref s.heap.objs.size)
    repeat (any_goals (first | assumption | wp_step))
    refine codeAny_mono (codeAny_call_builtin (R := wants (fun r s2 => r = .none ∧ ∃ h' tk es ep t, s2 = { s with heap := h', toks := tk } ∧ SetK w h' s.heap.objs.size es ep t ∧ GotK s.heap es items.toList ks ∧ ∀ b o, s.heap.get? b = some o → h'.get? b = some o) E) F.called_set.init.plain F.entry_set_init (check_set_init_1 hT ?_)) fun r s2 hr2 => ?_
    · obtain ⟨⟨oc, od, oo, os⟩, hol, hcl, nl, hdl⟩ := hl
      simp only at hcl hdl
      subst hcl hdl
      have hl1 : (s.heap.push N).IsTuple l items := ⟨_, Heap.get?_push_of_some _ hol, rfl, nl, rfl⟩
      have hl2 : (s.heap.push N).get? l = some { cls := .type "tuple", dict := od, data := .seq items nl, slots := os } := Heap.get?_push_of_some _ hol
      have g1 := F.sub_tuple_set
      have g2 := F.sub_tuple_frozenset
      have g3 : (Value.type "tuple" == Value.type "dict") = false := by decide
      have lS : l < s.heap.objs.size := Heap.lt_size hol
      have h3 : A.in1.in1.in1.handled = none := by simp [hh]
      have zN : (s.heap.push N).objs.size = s.heap.objs.size + 1 := Heap.size_push ..
      have gone : ∀ b, s.heap.objs.size ≤ b → s.heap.get? b = none := fun b hb => by
        cases e : s.heap.get? b with
        | none => rfl
        | some o => exact absurd (Heap.lt_size e) (Nat.not_lt.mpr hb)
      subst hN
      unfold Builtin.«set.__init__» noKeywords Builtin.Frozenset.updateFrom
      generalize hPI : pyIter = PI
      wp_walk
      subst hPI
      refine wpAny_pyIter_tuple hl1 ?_
      refine wpAny_bind (wpAny_runValue ?_)
      refine upd_keys ((Walks.tuple h3 _ l (by rw [zN]; exact Nat.ne_of_lt (Nat.lt_succ_of_lt lS)) items).toS) s.heap.objs.size (by simp only [zN, List.mem_cons, List.not_mem_nil, or_false, not_or]; exact ⟨Nat.ne_of_lt (Nat.lt_succ_self _), Nat.ne_of_gt lS⟩) K (by simp) few (fun i v hv => by rw [Array.getElem?_toList]; exact hv)
        (gone _ (Nat.le_refl _)) (fun b hb => gone b (by rw [List.mem_singleton.mp hb, zN]; exact Nat.le_succ _)) (by simp only [Around.in1_units]; omega) (items.size - 0) 0 _ rfl (Nat.zero_le _)
        ⟨⟨_, Heap.get?_push_size _ rfl, rfl, rfl⟩, hl1.push _⟩ (fun b o e => Heap.get?_push_of_some _ (Heap.get?_push_of_some _ e)) ⟨#[], 0, _, setK_new (Heap.get?_push_of_some _ at'), ⟨fun e he => (by cases he), fun j hj => (by simp at hj), ⟨[], List.nodup_nil, rfl, fun j hj => (by cases hj)⟩⟩⟩ ?_
      intro s' es ep t mv SK g kp
      obtain ⟨h', g', d', tk', os'⟩ := s'
      have eg : g' = s.gens := mv.gens
      have ed : d' = s.drawn := mv.drawn
      have eo : os' = s.os := mv.os
      subst eg ed eo
      exact wpAny_pure (wpAny_pure ⟨rfl, h', tk', es, ep, t, rfl, SK, g, kp⟩)
    · rcases r with e | ⟨_ | r | _ | _⟩ <;> first | exact hr2 | exact hr2.elim | skip
      · obtain ⟨rfl, h', tk, es, ep, t, rfl, SK, g, kp⟩ := hr2
        repeat (any_goals (first | assumption | wp_step))
        exact q _ _ _ _ _ SK g kp
end
end Ld
/-! text LsE -/
set_option Elab.async false
set_option linter.all false
set_option maxRecDepth 100000
set_option maxHeartbeats 4000000
namespace Ld
open PySem PySem.Spec L2
open PyProof.Rows hiding St
open PySem.W
mutual
theorem eqv_key : ∀ k j : NestedKey, PyData.eqv k.data j.data = true → k = j
  | .none, j, h => by cases j <;> simp_all [NestedKey.data, PyData.eqv]
  | .num i, j, h => by cases j <;> simp_all [NestedKey.data, PyData.eqv]
  | .text i, j, h => by cases j <;> simp_all [NestedKey.data, PyData.eqv]
  | .tup ks, j, h => by
    cases j <;> simp only [NestedKey.data, PyData.eqv, Bool.false_eq_true] at h
    rw [eqv_keys _ _ h]
theorem eqv_keys : ∀ k j : List NestedKey, PyData.eqvAll (NestedKey.datas k) (NestedKey.datas j) = true → k = j
  | [], j, h => by cases j <;> simp_all [NestedKey.datas, PyData.eqvAll]
  | k :: r, j, h => by
    cases j with
    | nil => simp [NestedKey.datas, PyData.eqvAll] at h
    | cons c t =>
      simp only [NestedKey.datas, PyData.eqvAll, Bool.and_eq_true] at h
      rw [eqv_key _ _ h.1, eqv_keys _ _ h.2]
end
theorem toks_same {x y : PyData} (h : alike x y = true) (e : keyToks x = keyToks y) : PyData.eqv x y = true := by
  cases q : PyData.eqv x y with
  | true => rfl
  | false =>
    have z := (toks_eqv x y h).2 q [] [.inl 0]
    rw [e, PySem.W.lex_pre, PyProof.Rows.lex_irrefl] at z
    cases z
/-- of keys, what stands neither before nor behind is the same -/
theorem leD_same {x y : PyData} (h : alike x y = true) (hx : (toKey x).isSome = true) (hy : (toKey y).isSome = true) (a : leD x y = true) (b : leD y x = true) : x = y := by
  unfold leD at a b
  have e := lex_total (O := itemOrd) (keyToks x) (keyToks y) (by simpa [dataLt] using b) (by simpa [dataLt] using a)
  obtain ⟨k, hk⟩ := Option.isSome_iff_exists.mp hx
  obtain ⟨j, hj⟩ := Option.isSome_iff_exists.mp hy
  have e2 := toks_same h e
  rw [toKey_data x hk, toKey_data y hj] at e2 ⊢
  rw [eqv_key k j e2]
variable [Fs]
theorem dedup_mem (x : PyData) : ∀ l : List PyData, x ∈ dedup l ↔ x ∈ l
  | [] => Iff.rfl
  | d :: r => by
    unfold dedup
    have ih := dedup_mem x r
    cases q : (dedup r).any (beqD d) with
    | true =>
      refine ⟨fun h => .tail _ (ih.mp h), fun h => ?_⟩
      rcases List.mem_cons.mp h with rfl | h
      · obtain ⟨y, hy, e⟩ := List.any_eq_true.mp q
        rw [eq_of_beqD _ _ e]
        exact hy
      · exact ih.mpr h
    | false =>
      show x ∈ d :: dedup r ↔ _
      rw [List.mem_cons, List.mem_cons, ih]
theorem dedup_nodup : ∀ l : List PyData, (dedup l).Nodup
  | [] => List.nodup_nil
  | d :: r => by
    unfold dedup
    cases q : (dedup r).any (beqD d) with
    | true => exact dedup_nodup r
    | false =>
      refine List.nodup_cons.mpr ⟨fun h => ?_, dedup_nodup r⟩
      have := List.any_eq_false.mp q d h
      exact this (beqD_self d)
theorem isort_perm (l : List PyData) : (isort l).Perm l := by
  rw [isort_eq]
  exact List.mergeSort_perm _ _
theorem all_iff {a b : List PyData} {p : PyData → Bool} (h : ∀ x, x ∈ a ↔ x ∈ b) : a.all p = b.all p := by
  rw [Bool.eq_iff_iff, List.all_eq_true, List.all_eq_true]
  exact ⟨fun q x hx => q x ((h x).mpr hx), fun q x hx => q x ((h x).mp hx)⟩
/-- sorting asks only for the members, each but once -/
theorem sortD_members {a b zs : List PyData} (h : ∀ x, x ∈ a ↔ x ∈ b) (na : a.Nodup) (nb : b.Nodup) (keys : ∀ x ∈ a, (toKey x).isSome = true) (e : sortD a = some zs) : sortD b = some zs := by
  obtain ⟨h1, _, _, _⟩ := sortD_some e
  have al : allAlike b = allAlike a := by
    unfold allAlike
    rw [all_iff (fun x => (h x).symm)]
    congr 1
    funext d
    exact all_iff fun x => (h x).symm
  have so : sortable b = sortable a := by
    unfold sortable
    rw [all_iff (fun x => (h x).symm), all_iff (a := b) (b := a) (fun x => (h x).symm)]
  have pm : b.Perm a := (List.perm_ext_iff_of_nodup nb na).mpr fun x => (h x).symm
  have i : isort b = isort a := by
    refine List.Perm.eq_of_pairwise (le := fun x y => leD x y = true) (fun x y hx hy e1 e2 => ?_) (isort_pair b) (isort_pair a) ((isort_perm b).trans (pm.trans (isort_perm a).symm))
    have mx : x ∈ a := (h x).mpr ((isort_perm b).mem_iff.mp hx)
    have my : y ∈ a := (isort_perm a).mem_iff.mp hy
    exact leD_same (h1 x mx y my) (keys x mx) (keys y my) e1 e2
  unfold sortD at e ⊢
  rw [al, so, all_iff (a := b) (b := a) (fun x => (h x).symm), i]
  exact e
theorem perm_back {α β : Type} {f : α → β} {a b : List β} (p : a.Perm b) : ∀ l : List α, b = l.map f → ∃ l' : List α, l'.Perm l ∧ a = l'.map f := by
  induction p with
  | nil => intro l e; cases l with
    | nil => exact ⟨[], .nil, rfl⟩
    | cons => cases e
  | cons x _ ih =>
    intro l e
    cases l with
    | nil => cases e
    | cons y r =>
      simp only [List.map_cons, List.cons.injEq] at e
      obtain ⟨l', h1, h2⟩ := ih r e.2
      exact ⟨y :: l', h1.cons y, by rw [List.map_cons, ← h2, e.1]⟩
  | swap x y r =>
    intro l e
    match l, e with
    | u :: v :: t, e =>
      simp only [List.map_cons, List.cons.injEq] at e
      exact ⟨v :: u :: t, .swap _ _ _, by simp only [List.map_cons, e.1, e.2.1, e.2.2]⟩
  | trans _ _ i1 i2 =>
    intro l e
    obtain ⟨l1, h1, h2⟩ := i2 l e
    obtain ⟨l2, h3, h4⟩ := i1 l1 h2
    exact ⟨l2, h3.trans h1, h4⟩
end Ld
/-! text LsF -/
set_option Elab.async false
set_option linter.all false
set_option maxRecDepth 100000
set_option maxHeartbeats 4000000
namespace Ld
open PySem PySem.Spec L2
open PyProof.Rows hiding St
variable [Fs]

/-! ### set(xs) and sorted of it, by data -/
/-- the set at a, by where its items stand -/
def SetX (w : World) (a : Addr) (us : List Addr) (h : Heap) : Prop :=
  ∃ (es : Array (Int × Value)) (ep : Nat) (t : SetTable), (∃ o, h.get? a = some o ∧ o.ExactSet ∧ o.data = .set es ep t) ∧ es.toList.map (·.2) = us.map Value.ref ∧ t.fits es.size = true ∧ Ris t.place.toList ∧ (w.params.followText "set-order" = true ∨ t.led = true) ∧ es.size < 64
abbrev setx (w : World) (a : Addr) (us : List Addr) : HO := .ext (SetX w a us)
theorem setX_ok {P : Program} {w : World} {H : Hp} {h : Heap} {a : Addr} {us : List Addr} (x : SetX w a us h) : ObjOk P w H h a (setx w a us) := by
  obtain ⟨_, _, _, ⟨o, ho, _⟩, _⟩ := id x
  refine ⟨x, ⟨o, ho⟩, fun h1 h2 p k => ?_⟩
  obtain ⟨es, ep, t, ⟨o', ho', r⟩, q⟩ := p
  exact ⟨es, ep, t, ⟨o', k o' ho', r⟩, q⟩
theorem keys_of : ∀ {ds : List PyData}, ds.all keyable = true → ∃ ks, ds = NestedKey.datas ks ∧ ∀ k ∈ ks, k.depth ≤ 8
  | [], _ => ⟨[], rfl, fun _ h => by cases h⟩
  | d :: r, h => by
    rw [List.all_cons, Bool.and_eq_true] at h
    obtain ⟨ks, e, hk⟩ := keys_of h.2
    have h1 := h.1
    unfold keyable at h1
    cases q : toKey d with
    | none => rw [q] at h1; cases h1
    | some k =>
      rw [q] at h1
      refine ⟨k :: ks, by simp only [NestedKey.datas]; rw [← toKey_data d q, ← e], fun j hj => ?_⟩
      rcases List.mem_cons.mp hj with rfl | hj
      · exact of_decide_eq_true h1
      · exact hk j hj
theorem datas_mem : ∀ {ks : List NestedKey} {d : PyData}, d ∈ NestedKey.datas ks ↔ ∃ k ∈ ks, d = k.data
  | [], d => by simp [NestedKey.datas]
  | k :: r, d => by
    simp only [NestedKey.datas, List.mem_cons, datas_mem (ks := r)]
    constructor
    · rintro (rfl | ⟨j, hj, rfl⟩)
      · exact ⟨k, .inl rfl, rfl⟩
      · exact ⟨j, .inr hj, rfl⟩
    · rintro ⟨j, rfl | hj, rfl⟩
      · exact .inl rfl
      · exact .inr ⟨j, hj, rfl⟩
section
variable {X : Cx} {pins : List (Addr × Obj)} {σ : St} {H : Hp} {s : Shared}
/-- the values are keys, one by one -/
theorem areK (I : Inv X pins σ H s) : ∀ (ks : List NestedKey) {vs : List V} {us : List Value}, RpA X.K X.w H (NestedKey.datas ks) vs → Vals vs us → (∀ k ∈ ks, k.depth ≤ 8) → (∀ d ∈ NestedKey.datas ks, isTupD d = true) → AreK s.heap us ks
  | [], _, _, h, r, _, _ => by simp only [NestedKey.datas] at h; cases h; cases r; exact .nil
  | k :: ks, _, _, h, r, hd, ht => by
    simp only [NestedKey.datas] at h ht
    cases h with
    | cons h1 h2 =>
      cases r with
      | cons r1 r2 =>
        refine .cons ?_ (areK I ks h2 r2 (fun j hj => hd j (.tail _ hj)) fun d hd => ht d (.tail _ hd))
        have tp := ht k.data (.head _)
        have nk := rp_key I k h1 r1
        cases k with
        | tup js =>
          cases nk with
          | tup a b c e => exact ⟨_, rfl, .tup a b c e, hd _ (.head _)⟩
        | _ => simp [NestedKey.data, isTupD] at tp
/-- where the rows' values stand, and their data -/
theorem rows_data {h : Heap} {ds : List PyData} : ∀ {es : List (Int × Value)}, (∀ e ∈ es, ∃ b k, e.2 = .ref b ∧ Rp X.K X.w H k.data (.ref b) ∧ IsK h k e.2 ∧ k.data ∈ ds) →
    ∃ (us : List Addr) (ys : List PyData), es.map (·.2) = us.map Value.ref ∧ RpA X.K X.w H ys (us.map V.ref) ∧ Paired (fun e y => y ∈ ds ∧ ∃ k, IsK h k e.2 ∧ y = k.data) es ys
  | [], _ => ⟨[], [], rfl, .nil, .nil⟩
  | e :: r, all => by
    obtain ⟨us, ys, h1, h2, h3⟩ := rows_data (es := r) fun f hf => all f (.tail _ hf)
    obtain ⟨b, k, eb, rk, ik, m⟩ := all e (.head _)
    exact ⟨b :: us, k.data :: ys, by rw [List.map_cons, List.map_cons, h1, eb], .cons rk h2, .cons ⟨m, k, ik, rfl⟩ h3⟩
theorem paired_nodup {h : Heap} {ds : List PyData} : ∀ {es : List (Int × Value)} {ys : List PyData}, Paired (fun (e : Int × Value) y => y ∈ ds ∧ ∃ k, IsK h k e.2 ∧ y = k.data) es ys → (es.Pairwise fun e f => ∀ k, IsK h k e.2 → ¬ IsK h k f.2) → ys.Nodup
  | _, _, .nil, _ => List.nodup_nil
  | _, _, .cons a r, p => by
    obtain ⟨p1, p2⟩ := List.pairwise_cons.mp p
    obtain ⟨_, k, ik, rfl⟩ := a
    refine List.nodup_cons.mpr ⟨fun hm => ?_, paired_nodup r p2⟩
    have key : ∀ {es : List (Int × Value)} {ys : List PyData}, Paired (fun (e : Int × Value) y => y ∈ ds ∧ ∃ k, IsK h k e.2 ∧ y = k.data) es ys → ∀ y ∈ ys, ∃ e ∈ es, ∃ k, IsK h k e.2 ∧ y = k.data := by
      intro es ys p
      induction p with
      | nil => intro y hy; cases hy
      | cons a _ ih =>
        intro y hy
        rcases List.mem_cons.mp hy with rfl | hy
        · exact ⟨_, .head _, a.2⟩
        · obtain ⟨e, he, h⟩ := ih y hy
          exact ⟨e, .tail _ he, h⟩
    obtain ⟨f, hf, j, ij, e⟩ := key r _ hm
    rw [← data_inj _ _ e] at ij
    exact p1 f hf k ik ij
theorem paired_left {α β : Type} {F : α → β → Prop} {l : List α} {r : List β} (p : Paired F l r) : ∀ x ∈ l, ∃ y ∈ r, F x y := by
  induction p with
  | nil => intro x h; cases h
  | cons a _ ih =>
    intro x h
    rcases List.mem_cons.mp h with rfl | h
    · exact ⟨_, .head _, a⟩
    · obtain ⟨y, h1, h2⟩ := ih x h
      exact ⟨y, .tail _ h1, h2⟩
theorem vals_at : ∀ {vs : List V} {us : List Value}, Vals vs us → ∀ {i : Nat} {u : Value}, us[i]? = some u → ∃ v, vs[i]? = some v ∧ RelV v u
  | _, _, .nil, i, u, h => by simp at h
  | _, _, .cons a r, 0, u, h => by simp at h; subst h; exact ⟨_, rfl, a⟩
  | _, _, .cons a r, i + 1, u, h => by
    obtain ⟨v, h1, h2⟩ := vals_at r (i := i) (by simpa using h)
    exact ⟨v, by simpa using h1, h2⟩
def rSet (K : PySem.W.Frag) (w : World) : List V → Hp → VK → Prop := fun vs H Q => ∃ pa g d ds v, PenOk K w H pa g ∧ vs = [v] ∧ DvOk .read K w H pa (.d d) v ∧ (d = .list ds ∨ d = .tuple ds) ∧ (ds.all fun d => isTupD d && keyable d) = true ∧
  (∀ ls : List PyData, ls.Nodup → (∀ d ∈ ls, d ∈ ds) → ls.length < 63) ∧ ∀ a us ys, H a = none → RpA K w H ys (us.map V.ref) → ys.Nodup → (∀ y, y ∈ ys ↔ y ∈ ds) → Q (.ref a) (upd H a (setx w a us))
theorem b_set (R : Rdy X) : CallR X (.type "set") (rSet X.K X.w) := by
  intro pins s σ H vs us Q I rv h
  obtain ⟨pa, g, d, ds, v, pen, rfl, dv, hd, ht, few, q⟩ := h
  obtain ⟨l, ws, rfl, sq, ra, st, sl⟩ := seq_is dv hd
  rw [Vals.ref1 rv]
  have hu := R.hu
  have hh := I.ok.hd R.calm
  have hk : ds.all keyable = true := List.all_eq_true.mpr fun d hd => (Bool.and_eq_true _ _ ▸ List.all_eq_true.mp ht d hd).2
  have hT : ∀ d ∈ ds, isTupD d = true := fun d hd => (Bool.and_eq_true _ _ ▸ List.all_eq_true.mp ht d hd).1
  obtain ⟨ks, rfl, dep⟩ := keys_of hk
  have fewK : FewK ks := fun ls n1 n2 => by
    have := few (ls.map NestedKey.data) (List.Pairwise.map _ (fun a b hne e => hne (data_inj _ _ e)) n1) fun d hd => by
      obtain ⟨k, hk, rfl⟩ := List.mem_map.mp hd
      exact datas_mem.mpr ⟨k, n2 k hk, rfl⟩
    rw [List.length_map] at this
    exact this
  -- whatever holds the items
  have main : ∀ its : List Value, Vals ws its → (∀ Q' : Value → Shared → Prop, AreK s.heap its ks → (∀ (h' : Heap) (tk : Nat) es ep t, SetK X.w h' s.heap.objs.size es ep t → GotK s.heap es its ks → (∀ b o, s.heap.get? b = some o → h'.get? b = some o) → Q' (.ref s.heap.objs.size) { s with heap := h', toks := tk }) →
      wpAny (model X.prog X.w) X.A (call (.type "set") [.ref l]) Q' X.xe s) → wpAny (model X.prog X.w) X.A (call (.type "set") [.ref l]) (fun r s' => EP X pins σ Q r s') X.xe s := fun its rv' go => by
    have ak := areK I ks ra rv' dep hT
    refine go _ ak fun h' tk es ep t SK gk kp => ?_
    have n : H s.heap.objs.size = none := I.hok.fresh (Nat.le_refl _)
    obtain ⟨us, ys, e1, e2, e3⟩ := rows_data (X := X) (H := H) (h := s.heap) (ds := NestedKey.datas ks) (es := es.toList) fun e he => by
      obtain ⟨i, hi⟩ := List.mem_iff_getElem?.mp (gk.sub e he)
      obtain ⟨k, hki, ik⟩ := paired_at ak hi
      obtain ⟨v, hv, rv⟩ := vals_at rv' hi
      obtain ⟨d, hdi, rd⟩ := ra.get' hv
      have e0 : ∀ (ks : List NestedKey) (i : Nat), (NestedKey.datas ks)[i]? = (ks[i]?).map NestedKey.data := fun ks => by
        induction ks with
        | nil => intro i; simp [NestedKey.datas]
        | cons k r ih =>
          intro i
          simp only [NestedKey.datas]
          cases i with
          | zero => rfl
          | succ i => simpa using ih i
      rw [e0, hki] at hdi
      cases hdi
      obtain ⟨b, eb, _⟩ := id ik
      rw [eb] at rv
      have ev : v = .ref b := by cases v <;> first | (cases rv; done) | (cases rv; rfl) | (obtain ⟨_, z⟩ := rv; cases z)
      subst ev
      exact ⟨b, k, eb, rd, ik, datas_mem.mpr ⟨k, List.mem_of_getElem? hki, rfl⟩⟩
    have ap : es.toList.Pairwise fun e f => ∀ k, IsK s.heap k e.2 → ¬ IsK s.heap k f.2 := SK.apart.imp fun {e f} z k h1 h2 => z k (h1.keep kp) (h2.keep kp)
    refine ⟨.ref s.heap.objs.size, _, I.laid (t' := tk) (o := setx X.w s.heap.objs.size us) kp (Nat.le_refl _) (setX_ok ⟨es, ep, t, SK.ob, e1, SK.fits (s := { s with heap := h' }), SK.tab.ris, SK.led, SK.few⟩), rfl, q _ us ys n e2 (paired_nodup e3 ap) fun y => ⟨fun hy => ?_, fun hy => ?_⟩⟩
    · obtain ⟨i, hi⟩ := List.mem_iff_getElem?.mp hy
      have key : ∀ {es : List (Int × Value)} {ys : List PyData}, Paired (fun (e : Int × Value) y => y ∈ NestedKey.datas ks ∧ ∃ k, IsK s.heap k e.2 ∧ y = k.data) es ys → ∀ y ∈ ys, y ∈ NestedKey.datas ks := by
        intro es ys p
        induction p with
        | nil => intro y hy; cases hy
        | cons a _ ih =>
          intro y hy
          rcases List.mem_cons.mp hy with rfl | hy
          · exact a.1
          · exact ih y hy
      exact key e3 y hy
    · obtain ⟨k, hk, rfl⟩ := datas_mem.mp hy
      obtain ⟨e, he, ik⟩ := gk.all k hk
      obtain ⟨y, hy, _, j, ij, rfl⟩ := paired_left e3 e he
      rw [ik.inj ij]
      exact hy
  rcases hd with rfl | rfl
  · obtain ⟨its, r', pl, _⟩ := I.list (sl rfl)
    exact main its r' fun Q' ak z => set_list hh pl.isList (by simpa using ak) fewK (by omega) (by simpa using z)
  · obtain ⟨its, r', pl, _⟩ := I.tuple (st rfl)
    exact main its r' fun Q' ak z => set_tuple hh (show s.heap.IsTuple l its.toArray from pl) (by simpa using ak) fewK (by omega) (by simpa using z)
end
end Ld
/-! text LsG -/
set_option Elab.async false
set_option linter.all false
set_option maxRecDepth 100000
set_option maxHeartbeats 4000000
namespace Ld
open PySem PySem.Spec L2
open PyProof.Rows hiding St
variable [Fs]
section
variable {X : Cx} {pins : List (Addr × Obj)} {σ : St} {H : Hp} {s : Shared} {r : Md}
theorem rpA_pairs {K : PySem.W.Frag} {w : World} {H : Hp} : ∀ {ys : List PyData} {us : List Addr}, RpA K w H ys (us.map V.ref) → (∀ p ∈ us.zip ys, Rp K w H p.2 (.ref p.1)) ∧ (us.zip ys).map (·.2) = ys ∧ (us.zip ys).map (·.1) = us
  | [], us, h => by
    cases us with
    | nil => exact ⟨fun p hp => by simp at hp, rfl, rfl⟩
    | cons => cases h
  | d :: r, us, h => by
    cases us with
    | nil => cases h
    | cons u t =>
      cases h with
      | cons a b =>
        obtain ⟨h1, h2, h3⟩ := rpA_pairs b
        refine ⟨fun p hp => ?_, by simp [h2], by simp [h3]⟩
        rcases List.mem_cons.mp hp with rfl | hp
        · exact a
        · exact h1 p hp
theorem pairs_rpA {K : PySem.W.Frag} {w : World} {H : Hp} : ∀ {l : List (Addr × PyData)}, (∀ p ∈ l, Rp K w H p.2 (.ref p.1)) → RpA K w H (l.map (·.2)) (l.map fun p => V.ref p.1)
  | [], _ => .nil
  | p :: r, h => .cons (h p (.head _)) (pairs_rpA fun q hq => h q (.tail _ hq))
theorem pairs_vals : ∀ {l : List (Addr × PyData)}, Vals (l.map fun p => V.ref p.1) (l.map fun p => Value.ref p.1)
  | [] => .nil
  | p :: r => .cons rfl pairs_vals
mutual
/-- what is read off stands there -/
theorem reads_there {h : Heap} : ∀ {v : Value} {d : PyData} {as : List Addr}, Reads h v d as → ∀ a ∈ as, ∃ o, h.get? a = some o
  | _, _, _, .none, a, m => by cases m
  | _, _, _, .bool _, a, m => by cases m
  | _, _, _, .int _ _, a, m => by cases m
  | _, _, _, .str _ _, a, m => by cases m
  | _, _, _, .list ho _ _ r, a, m => (List.mem_cons.mp m).elim (fun e => ⟨_, e ▸ ho⟩) (reads_there_all r a)
  | _, _, _, .tuple _ _ _ r, a, m => reads_there_all r a m
  | _, _, _, .dict ho _ _ r1 r2, a, m => (List.mem_append.mp m).elim (fun m => (List.mem_cons.mp m).elim (fun e => ⟨_, e ▸ ho⟩) (reads_there_all r1 a)) (reads_there_all r2 a)
theorem reads_there_all {h : Heap} : ∀ {v : List Value} {d : List PyData} {as : List Addr}, ReadsAll h v d as → ∀ a ∈ as, ∃ o, h.get? a = some o
  | _, _, _, .nil, a, m => by cases m
  | _, _, _, .cons r1 r2, a, m => (List.mem_append.mp m).elim (reads_there r1 a) (reads_there_all r2 a)
end
def rSrt (K : PySem.W.Frag) (w : World) (r : Md) : List V → Hp → VK → Prop := fun vs H Q => ∃ pa g a us ys zs, PenOk K w H pa g ∧ vs = [.ref a] ∧ H a = some (setx w a us) ∧ RpA K w H ys (us.map V.ref) ∧ (∀ ys', ys'.Perm ys → sortD ys' = some zs) ∧ okP K w H pa r (.d (.list zs)) g Q
theorem b_srt (R : Rdy X) : CallR X (.builtin "sorted") (rSrt X.K X.w r) := by
  intro pins s σ H vs us0 Q I rv h
  obtain ⟨pa, g, a, us, ys, zs, pen, rfl, ha, ra, srt, q⟩ := h
  obtain ⟨es, ep, t, ⟨o, ho, hex, hd⟩, hes, fits, ris, led, few⟩ : SetX X.w a us s.heap := (I.hok a _ ha).1
  rw [Vals.ref1 rv]
  have hu := R.hu
  refine Calls.call_function_entry kind_sorted plain_sorted entry_sorted (args_sorted1 _) ?_
  unfold Builtin.«sorted»
  refine wpAny_bind (m := checkCount "sorted" 1 1 _) (wpAny_pure ?_)
  refine wpAny_bind (collect_set (A := X.A.in1) (I.ok.hd R.calm) ⟨o, ho, hex.1, hd⟩ fits (by unfold scanBound; omega) ris led fun s1 out k1 hz g1 o1 pm => ?_)
  obtain ⟨rp, zy, zu⟩ := rpA_pairs ra
  have e1 : es.toList.map (·.2) = (us.zip ys).map fun p => Value.ref p.1 := by rw [hes, ← zu, List.map_map]; congr 1; rw [zu]
  obtain ⟨l, pl, rfl⟩ := perm_back pm _ e1
  have rpl : ∀ p ∈ l, Rp X.K X.w H p.2 (.ref p.1) := fun p hp => rp p (pl.mem_iff.mp hp)
  have ra' := pairs_rpA rpl
  have hys : sortD (l.map (·.2)) = some zs := srt _ (by have := pl.map (·.2); rw [zy] at this; exact this)
  have hlen : l.length < 64 := by
    have := pl.length_eq
    have h2 := congrArg List.length e1
    rw [List.length_map, List.length_map, Array.length_toList] at h2
    omega
  have hl64 : (l.map fun p => Value.ref p.1).length ≤ sizeLine := by rw [List.length_map, sizeLine_eq]; omega
  refine wpAny_bind (wpAny_newList ?_ hl64)
  have I1 : Inv X pins σ H s1 := I.call' (ch := []) o1 (Un.kept k1) (I.hok.kept k1) (by rw [g1]; exact I.bare) fun _ z => nomatch z
  have hn : s1.heap.get? s1.heap.objs.size = none := by
    cases e : s1.heap.get? s1.heap.objs.size with
    | none => rfl
    | some o => exact absurd (Heap.lt_size e) (Nat.lt_irrefl _)
  have rv' : Vals (l.map fun p => V.ref p.1) (l.map fun p => Value.ref p.1) := pairs_vals
  obtain ⟨h1, h2⟩ := rpA_zip ra' rv'
  obtain ⟨hal, hs, hdep, ezs⟩ := sortD_some hys
  have kp1 : ∀ b u, s1.heap.get? b = some u → (s1.heap.push (seqObj "list" (l.map fun p => Value.ref p.1).toArray 0)).get? b = some u := fun b u e => Heap.get?_push_of_some _ e
  have ho2 : (s1.heap.push (seqObj "list" (l.map fun p => Value.ref p.1).toArray 0)).get? s1.heap.objs.size = some (seqObj "list" (l.map fun p => Value.ref p.1).toArray 0) := Heap.get?_push_size _ rfl
  have er : PySem.W.EachIs (fun u (b : V × PyData) => ∃ as, Reads (s1.heap.push (seqObj "list" (l.map fun p => Value.ref p.1).toArray 0)) u b.2 as ∧ s1.heap.objs.size ∉ as) (l.map fun p => Value.ref p.1) ((l.map fun p => V.ref p.1).zip (l.map (·.2))) := h1.mono fun u b q0 => by
    obtain ⟨as, rd⟩ := Rp.reads I1 q0.2 q0.1
    refine ⟨as, PyProof.Rows.Reads.keeps kp1 rd, fun hm => ?_⟩
    obtain ⟨o', e'⟩ := reads_there rd _ hm
    rw [hn] at e'
    cases e'
  have zl : ((l.map fun p => V.ref p.1).zip (l.map (·.2))).length = l.length := by simp
  refine wpAny_bind (wpAny_holding (PySem.W.list_sort_data (s := { s1 with heap := s1.heap.push (seqObj "list" (l.map fun p => Value.ref p.1).toArray 0) }) (bs := (l.map fun p => V.ref p.1).zip (l.map (·.2))) (enc := fun b => b.2) ho2 h1 er (by rw [h2]; exact hal) (by rw [h2]; exact hs) (by rw [zl, sizeLine_eq]; omega) (fun b hb => ?_) fun out hl2 eo => ?_))
  · have hm : b.2 ∈ l.map (·.2) := by rw [← h2]; exact List.mem_map.mpr ⟨b, hb, rfl⟩
    have := List.all_eq_true.mp hdep _ hm
    rw [decide_eq_true_eq] at this
    simp only [Around.in1_units]
    omega
  · obtain ⟨e, he⟩ := sortedHeap_at (vs := l.map fun p => Value.ref p.1) (out := out.toArray) ho2
    obtain ⟨b1, b2⟩ := each_back eo
    have em : (((l.map fun p => V.ref p.1).zip (l.map (·.2))).mergeSort (PySem.W.dataLe false fun b => b.2)).map (·.2) = zs := by
      have e1 := PySem.W.sort_maps (r := PySem.W.dataLe false fun b : V × PyData => b.2) (s := leD) (fun b : V × PyData => b.2) (l := (l.map fun p => V.ref p.1).zip (l.map (·.2))) (fun a _ b _ => rfl)
      rw [e1, h2, ezs]
    rw [em] at b1
    have kp2 : ∀ b u, s1.heap.get? b = some u → (sortedHeap (s1.heap.push (seqObj "list" (l.map fun p => Value.ref p.1).toArray 0)) s1.heap.objs.size (l.map fun p => Value.ref p.1) out.toArray).get? b = some u := fun b u e => by
      have lt := Heap.lt_size e
      rw [sortedHeap_old (Nat.ne_of_lt lt) (by rw [size_push']; exact Nat.lt_succ_of_lt lt)]
      exact kp1 b u e
    refine wpAny_pure ⟨_, rfl, ?_⟩
    have z3 : (((l.map fun p => V.ref p.1).zip (l.map (·.2))).mergeSort (PySem.W.dataLe false fun b => b.2)).length ≤ sizeLine := by rw [List.length_mergeSort, zl, sizeLine_eq]; omega
    have I2 := I1.laid (t' := s1.toks) (o := .lst ((((l.map fun p => V.ref p.1).zip (l.map (·.2))).mergeSort (PySem.W.dataLe false fun b => b.2)).map (·.1))) kp2 (Nat.le_refl _) ⟨by rw [List.length_map]; exact z3, out, e, b2, he⟩
    exact fin_lst I2 (I1.hok.fresh (Nat.le_refl _)) pen b1 q
end
end Ld
/-! text LsH -/
set_option Elab.async false
set_option linter.all false
set_option maxRecDepth 100000
set_option maxHeartbeats 4000000
namespace Ld
open PySem PySem.Spec L2
open PyProof.Rows hiding St
variable [Fs]

/-! ### sorted(set(xs)) -/
theorem nodup_le {α : Type} [DecidableEq α] : ∀ (l r : List α), l.Nodup → (∀ x ∈ l, x ∈ r) → l.length ≤ r.length
  | [], _, _, _ => Nat.zero_le _
  | x :: l, r, n, s => by
    obtain ⟨n1, n2⟩ := List.nodup_cons.mp n
    have hx := s x (.head _)
    have ih := nodup_le l (r.erase x) n2 fun y hy => (List.mem_erase_of_ne (show y ≠ x from fun e => n1 (by rw [← e]; exact hy))).mpr (s y (.tail _ hy))
    have e := List.length_erase_of_mem hx
    have := List.length_pos_of_mem hx
    rw [List.length_cons]
    omega
theorem ssetD_some {ds ys : List PyData} (h : ssetD ds = some ys) : tupKeys ds = true ∧ (dedup ds).length ≤ 62 ∧ sortD (dedup ds) = some ys := by
  unfold ssetD at h
  cases q : tupKeys ds && decide ((dedup ds).length ≤ 62) with
  | false => rw [q] at h; cases h
  | true =>
    rw [q] at h
    rw [Bool.and_eq_true, decide_eq_true_eq] at q
    exact ⟨q.1, q.2, h⟩
theorem itemsD_some {d : PyData} {ds : List PyData} (h : itemsD d = some ds) : d = .list ds ∨ d = .tuple ds := by
  cases d <;> simp_all [itemsD]
section
variable {X : Cx} {ex : EX} {W : WX} {HB : Hp} {pb : Option Addr} {r : Md}
theorem n_sset (R : Rdy X) {a : E} {x : Expr} {p p2 q pos : Pos} (hg : Gl X "sorted") (hm : X.mg "sorted" = none) (hg2 : Gl X "set") (hm2 : X.mg "set" = none) (ha : PE X x (TX X ex W HB pb .read a)) (hx : nice x = true) :
    PE X (.Call (.Name "sorted" p) [.Call (.Name "set" p2) [x] [] q] [] pos) (TX X ex W HB pb r (.sset a)) := by
  have s1 := nice_star hx [] X.env
  have hs : PE X (.Call (.Name "set" p2) [x] [] q) (tCB (rSet X.K X.w) (tCons (TX X ex W HB pb .read a) tNil)) := pe_callTy (b_set R) hg2 hm2 PyProof.Rows.boot_set (pa_cons ha pa_nil s1) (by decide) (by decide) s1 rfl
  refine pe_mono (pe_callB (b_srt R (r := r)) hg hm PyProof.Rows.boot_sorted (pa_cons hs pa_nil rfl) (by decide) (by decide) rfl rfl) fun σ H Q h => ?_
  obtain ⟨δ, g, pa, S, p⟩ := h
  simp only [ev] at p
  obtain ⟨δ1, g1, p1, S1, p⟩ := tE1 (r1 := .read) S p
  refine ⟨δ1, g1, p1, S1, post_mono p fun v H1 ⟨y, g3, p3, S3, _, dx, p⟩ => ?_⟩
  obtain ⟨d, rfl, p⟩ := post_dat p
  obtain ⟨ds, hds, p⟩ := post_ofO p
  obtain ⟨ys, hys, p⟩ := post_ofO p
  obtain ⟨tk, fw, hs⟩ := ssetD_some hys
  refine ⟨p3, _, d, ds, v, S3.pen, rfl, dx, itemsD_some hds, tk, fun ls n m => ?_, fun b us zs nb ra nd mem => ?_⟩
  · have := nodup_le ls (dedup ds) n fun d hd => (dedup_mem d ds).mpr (m d hd)
    omega
  · have st : Stp X.K X.w H1 p3 (upd H1 b (setx X.w b us)) p3 _ := Stp.new S3.pen nb
    refine ⟨p3, _, b, us, zs, ys, st.pen, rfl, upd_same, ra.kp (Kp.new nb), fun l pl => ?_, fun u H2 pa2 s2 du f => post_step st p u H2 pa2 s2 du f⟩
    refine sortD_members (a := dedup ds) (fun x => ?_) (dedup_nodup ds) (pl.nodup_iff.mpr nd) (fun x hx => ?_) hs
    · rw [dedup_mem, ← mem, pl.mem_iff]
    · have := List.all_eq_true.mp tk x ((dedup_mem x ds).mp hx)
      rw [Bool.and_eq_true] at this
      have h2 := this.2
      unfold keyable at h2
      cases e : toKey x with
      | none => rw [e] at h2; cases h2
      | some k => rfl
end
end Ld
/-! text LsI -/
set_option Elab.async false
set_option linter.all false
set_option maxRecDepth 100000
set_option maxHeartbeats 4000000
namespace Ld
open PySem PySem.Spec L2
open PyProof.Rows hiding St
variable [Fs]

/-! ### d[k] = v on one's own dict -/
theorem kd_beq (a b : Key) : beqD (kd a) (kd b) = decide (a = b) := by
  cases q : beqD (kd a) (kd b) with
  | true => exact (decide_eq_true (kd_inj (eq_of_beqD _ _ q))).symm
  | false => exact (decide_eq_false fun e => by rw [e, beqD_self] at q; cases q).symm
theorem data_beq (a b : NestedKey) : beqD a.data b.data = decide (a = b) := by
  cases q : beqD a.data b.data with
  | true => exact (decide_eq_true (data_inj _ _ (eq_of_beqD _ _ q))).symm
  | false => exact (decide_eq_false fun e => by rw [e, beqD_self] at q; cases q).symm
section
variable {K : PySem.W.Frag} {w : World} {H : Hp}
theorem rpL_has : ∀ {kvs : List (PyData × PyData)} {ls : List (Key × V)}, RpL K w H kvs ls → ∀ k : Key, dhas kvs (kd k) = ls.any fun p => decide (p.1 = k)
  | _, _, .nil, k => rfl
  | _, _, .cons (k := k') e _ r, k => by
    have ih := rpL_has r k
    unfold dhas at ih ⊢
    rw [List.any_cons, List.any_cons, ih, e, kd_beq]
theorem rpL_repl {d : PyData} {v : V} (rd : Rp K w H d v) : ∀ {kvs : List (PyData × PyData)} {ls : List (Key × V)}, RpL K w H kvs ls → ∀ k : Key, RpL K w H (kvs.map fun p => match beqD p.1 (kd k) with | true => (p.1, d) | false => p) (ls.map fun p => if p.1 = k then (p.1, v) else p)
  | _, _, .nil, k => .nil
  | _, _, .cons (k := k') e a r, k => by
    rw [List.map_cons, List.map_cons]
    dsimp only
    rw [e, kd_beq]
    by_cases h : k' = k
    · rw [decide_eq_true h, if_pos h]
      exact .cons rfl rd (rpL_repl rd r k)
    · rw [decide_eq_false h, if_neg h]
      exact .cons rfl a (rpL_repl rd r k)
theorem RpL.append : ∀ {a c : List (PyData × PyData)} {b d : List (Key × V)}, RpL K w H a b → RpL K w H c d → RpL K w H (a ++ c) (b ++ d)
  | _, _, _, _, .nil, s => s
  | _, _, _, _, .cons e a r, s => .cons e a (RpL.append r s)
theorem RpN.append : ∀ {a c : List (PyData × PyData)} {b d : List NEnt}, RpN K w H a b → RpN K w H c d → RpN K w H (a ++ c) (b ++ d)
  | _, _, _, _, .nil, s => s
  | _, _, _, _, .cons e a b r, s => .cons e a b (RpN.append r s)
theorem rpL_put {kvs : List (PyData × PyData)} {ls : List (Key × V)} {k : Key} {d : PyData} {v : V} (r : RpL K w H kvs ls) (rd : Rp K w H d v) : RpL K w H (dput kvs (kd k) d) (putK ls k v) := by
  unfold dput putK
  rw [rpL_has r k]
  cases q : ls.any fun p => decide (p.1 = k) with
  | true => exact rpL_repl rd r k
  | false => exact r.append (.cons rfl rd .nil)
def putN (ns : List NEnt) (k : NestedKey) (b : Addr) (v : V) : List NEnt := match ns.any fun n => decide (n.1 = k) with
  | true => ns.map fun n => if n.1 = k then (n.1, n.2.1, v) else n
  | false => ns ++ [(k, b, v)]
theorem rpN_has : ∀ {kvs : List (PyData × PyData)} {ns : List NEnt}, RpN K w H kvs ns → ∀ k : NestedKey, dhas kvs k.data = ns.any fun p => decide (p.1 = k)
  | _, _, .nil, k => rfl
  | _, _, .cons (k := k') e _ _ r, k => by
    have ih := rpN_has r k
    unfold dhas at ih ⊢
    rw [List.any_cons, List.any_cons, ih, e.1, data_beq]
theorem rpN_repl {d : PyData} {v : V} (rd : Rp K w H d v) : ∀ {kvs : List (PyData × PyData)} {ns : List NEnt}, RpN K w H kvs ns → ∀ k : NestedKey, RpN K w H (kvs.map fun p => match beqD p.1 k.data with | true => (p.1, d) | false => p) (ns.map fun p => if p.1 = k then (p.1, p.2.1, v) else p)
  | _, _, .nil, k => .nil
  | _, _, .cons (k := k') e a b r, k => by
    rw [List.map_cons, List.map_cons]
    dsimp only
    rw [show beqD _ k.data = decide (k' = k) by rw [e.1, data_beq]]
    by_cases h : k' = k
    · rw [decide_eq_true h, if_pos h]
      exact .cons e a rd (rpN_repl rd r k)
    · rw [decide_eq_false h, if_neg h]
      exact .cons e a b (rpN_repl rd r k)
theorem rpN_put {kvs : List (PyData × PyData)} {ns : List NEnt} {k : NestedKey} {b : Addr} {d : PyData} {v : V} (r : RpN K w H kvs ns) (hk : k.depth ≤ 8) (rk : Rp K w H k.data (.ref b)) (rd : Rp K w H d v) : RpN K w H (dput kvs k.data d) (putN ns k b v) := by
  unfold dput putN
  rw [rpN_has r k]
  cases q : ns.any fun p => decide (p.1 = k) with
  | true => exact rpN_repl rd r k
  | false => exact r.append (.cons ⟨rfl, hk⟩ rk rd .nil)
theorem xs_has : ∀ {ns : List NEnt} {xs : List (NestedKey × Addr × Value)}, XsOk ns xs → ∀ k, (atKey xs k).isSome = ns.any fun p => decide (p.1 = k)
  | _, _, .nil, k => rfl
  | _, _, .cons (a := n) (b := x) h t, k => by
    have ih := xs_has t k
    unfold atKey at ih ⊢
    rw [Option.isSome_map] at ih ⊢
    rw [List.find?_cons, List.any_cons, ← ih, h.1]
    cases decide (x.1 = k) <;> rfl
theorem xs_repl {v : V} {u : Value} (r : RelV v u) (k : NestedKey) : ∀ {ns : List NEnt} {xs : List (NestedKey × Addr × Value)}, XsOk ns xs → XsOk (ns.map fun p => if p.1 = k then (p.1, p.2.1, v) else p) (xs.map (putAt k u))
  | _, _, .nil => .nil
  | _, _, .cons (a := n) (b := x) h t => by
    rw [List.map_cons, List.map_cons]
    refine .cons ?_ (xs_repl r k t)
    unfold putAt
    by_cases e : x.1 = k
    · rw [if_pos e, if_pos (h.1.trans e)]
      exact ⟨h.1, h.2.1, r⟩
    · rw [if_neg e, if_neg (fun z => e (h.1.symm.trans z))]
      exact h
theorem paired_append {α β : Type} {F : α → β → Prop} : ∀ {a c : List α} {b d : List β}, Paired F a b → Paired F c d → Paired F (a ++ c) (b ++ d)
  | _, _, _, _, .nil, s => s
  | _, _, _, _, .cons h t, s => .cons h (paired_append t s)
theorem xs_put {ns : List NEnt} {xs : List (NestedKey × Addr × Value)} {k : NestedKey} {b : Addr} {v : V} {u : Value} (x : XsOk ns xs) (r : RelV v u) : XsOk (putN ns k b v) (storedH xs k b u) := by
  unfold putN storedH
  rw [xs_has x k]
  cases q : ns.any fun p => decide (p.1 = k) with
  | true => rw [if_pos rfl]; exact xs_repl r k x
  | false => rw [if_neg (by decide)]; exact paired_append x (.cons ⟨rfl, rfl, r⟩ .nil)
end
section
variable {X : Cx} {pins : List (Addr × Obj)} {σ : St} {H : Hp} {s : Shared}
theorem dn_new {P : Program} {H' : Hp} {h' : Heap} {D : Addr} {w : World} {ns : List NEnt} {xs : List (NestedKey × Addr × Value)} (hd : (D == sysModules) = false) (x : XsOk ns xs) (z : ns.length ≤ sizeLine) (dd : h'.DictOfH (nestedKind P w) D xs) : ObjOk P w H' h' D (dn w D ns) := by
  obtain ⟨o, es, ep, ho, hc, hda, he, hm, hn⟩ := dd
  have nd : (ns.map (·.1)).Nodup := by
    have e : ns.map (·.1) = xs.map (·.1) := by
      clear he hn z hm
      induction x with
      | nil => rfl
      | cons h _ ih => rw [List.map_cons, List.map_cons, ih, h.1]
    rw [e]
    exact hn
  have pe : Paired (entOk w) ns es.toList := by rw [he]; exact ents_back x
  refine ⟨⟨hd, z, nd, o, es, ep, ho, hc, hda, pe⟩, ⟨o, ho⟩, fun h1 h2 p k => ?_⟩
  obtain ⟨a1, a2, a3, o', es', ep', ho', q⟩ := p
  exact ⟨a1, a2, a3, o', es', ep', k o' ho', q⟩
/-- the dict is written by m, which is told by its road: what stands there then -/
theorem dict_gen {E : Value → Shared → Prop} {A : Around} {D : Addr} {kvs : List (PyData × PyData)} {k d : PyData} {kv vv : V} {ku vu : Value} {Q : Unit → Shared → Prop} {m : Sem Unit} (I : Inv X pins σ H s) (ow : Ow X.K X.w H (.dict kvs) (.ref D)) (hk : kOk kvs k = true) (hz : kvs.length < maxLen)
    (rk : Rp X.K X.w H k kv) (rd : Rp X.K X.w H d vv) (r1 : RelV kv ku) (r2 : RelV vv vu)
    (m1 : ∀ (key : Key) (vs : List (Key × Value)), (mixKind X.prog X.w).is key ku = true → s.heap.DictOf (mixKind X.prog X.w) D vs → vs.length ≤ sizeLine → (∀ h' tk, h'.DictOf (mixKind X.prog X.w) D (stored vs key vu) → Heap.SameBut D s.heap h' → Q () { s with heap := h', toks := tk }) → wpAny (model X.prog X.w) A m Q E s)
    (m2 : ∀ (nk : NestedKey) (b : Addr) (xs : List (NestedKey × Addr × Value)), ku = .ref b → (nestedKind X.prog X.w).is s.heap nk b → s.heap.DictOfH (nestedKind X.prog X.w) D xs → xs.length ≤ sizeLine → (∀ h' tk, h'.DictOfH (nestedKind X.prog X.w) D (storedH xs nk b vu) → Heap.SameBut D s.heap h' → Q () { s with heap := h', toks := tk }) → wpAny (model X.prog X.w) A m Q E s)
    (h : ∀ o h' tk, Heap.SameBut D s.heap h' → (∃ q, h'.get? D = some q) → (∀ H', ObjOk X.prog X.w H' h' D o) → (∀ H', H' D = some o → Kp H H' → Ow X.K X.w H' (.dict (dput kvs k d)) (.ref D)) → Q () { s with heap := h', toks := tk }) :
    wpAny (model X.prog X.w) A m Q E s := by
  obtain ⟨D', e, hh⟩ := ow
  cases e
  have big : maxLen ≤ sizeLine := by rw [sizeLine_eq]; decide
  have leaf : ∀ key : Key, k = kd key → kV key = kv → wpAny (model X.prog X.w) A m Q E s := fun key e1 e2 => by
    subst e1
    have hka : (kvs.all fun p => !isTupD p.1) = true := by cases key <;> exact hk
    have his : (mixKind X.prog X.w).is key ku = true := kV_is (by rw [e2]; exact r1)
    have go : ∀ (ls : List (Key × V)) (vs : List (Key × Value)), (D == sysModules) = false → KV ls vs → s.heap.DictOf (mixKind X.prog X.w) D vs → RpL X.K X.w H kvs ls → wpAny (model X.prog X.w) A m Q E s := fun ls vs hd rel dd rl => by
      have hl : vs.length < sizeLine := by rw [← rel.length, ← rl.length]; omega
      refine m1 key vs his dd (Nat.le_of_lt hl) fun h' tk dd' sb => ?_
      refine h (.dK (putK ls key vv)) h' _ sb (let ⟨q, _, _, hq, _⟩ := dd'; ⟨q, hq⟩) (fun H' => dk_new ?_ hd (rel.put key r2) dd') fun H' e' kp => ?_
      · have := length_putK ls key vv
        rw [rel.length] at this
        omega
      · exact ⟨D, rfl, .inr ⟨_, e', (rpL_put rl rd).kp kp⟩⟩
    rcases hh with ⟨ns, hr, rn⟩ | ⟨ls, hr, rl⟩
    · obtain ⟨e3, e4⟩ := rpN_tups rn hka
      subst e3 e4
      obtain ⟨hd, dd⟩ := dn_empty_road I (.inl hr)
      exact go [] [] hd .nil dd .nil
    · obtain ⟨z, hd, vs, rel, dd⟩ := dk_of I.hok hr
      exact go ls vs hd rel dd rl
  cases k with
  | int i => cases rk; exact leaf (.inl i) rfl rfl
  | str i => cases rk; exact leaf (.inr i) rfl rfl
  | tuple ds =>
    simp only [kOk, Bool.and_eq_true, keyable] at hk
    obtain ⟨hk1, hk2⟩ := hk
    cases q : toKey (.tuple ds) with
    | none => rw [q] at hk1; cases hk1
    | some nk =>
      rw [q] at hk1
      simp only [decide_eq_true_eq] at hk1
      have ed := toKey_data _ q
      rw [ed] at rk h
      obtain ⟨b, rfl, rfl⟩ : ∃ b, kv = .ref b ∧ ku = .ref b := by
        rw [← ed] at rk
        cases rk
        cases r1
        exact ⟨_, rfl, rfl⟩
      have his : (nestedKind X.prog X.w).is s.heap nk b := ⟨rp_key I nk rk r1, hk1⟩
      have go : ∀ (ns : List NEnt) (xs : List (NestedKey × Addr × Value)), (D == sysModules) = false → XsOk ns xs → s.heap.DictOfH (nestedKind X.prog X.w) D xs → RpN X.K X.w H kvs ns → wpAny (model X.prog X.w) A m Q E s := fun ns xs hd x dd rn => by
        have hl : xs.length < sizeLine := by rw [← Paired.length x, ← rn.length]; omega
        refine m2 nk b xs rfl his dd (Nat.le_of_lt hl) fun h' tk dd' sb => ?_
        refine h (dn X.w D (putN ns nk b vv)) h' _ sb (let ⟨q, _, _, hq, _⟩ := dd'; ⟨q, hq⟩) (fun H' => dn_new hd (xs_put x r2) ?_ dd') fun H' e' kp => ?_
        · have e9 : (putN ns nk b vv).length ≤ ns.length + 1 := by
            unfold putN
            split <;> simp
          rw [Paired.length x] at e9
          omega
        · exact ⟨D, rfl, .inl ⟨_, e', (rpN_put rn hk1 rk rd).kp kp⟩⟩
      rcases hh with ⟨ns, hr, rn⟩ | ⟨ls, hr, rl⟩
      · obtain ⟨hd, _, xs, x1, dd⟩ := dn_road I (.inl hr) rn
        exact go ns xs hd x1 dd rn
      · obtain ⟨e3, e4⟩ := rpL_leaves rl hk2
        subst e3 e4
        obtain ⟨hd, dd⟩ := dk_empty_road I (.inl hr)
        exact go [] [] hd .nil dd .nil
  | _ => simp [kOk] at hk
theorem dict_put {E : Value → Shared → Prop} {A : Around} {D : Addr} {kvs : List (PyData × PyData)} {k d : PyData} {kv vv : V} {ku vu : Value} {Q : Unit → Shared → Prop} (I : Inv X pins σ H s) (hu : A.units + 100 < cLine) (ow : Ow X.K X.w H (.dict kvs) (.ref D)) (hk : kOk kvs k = true) (hz : kvs.length < maxLen)
    (rk : Rp X.K X.w H k kv) (rd : Rp X.K X.w H d vv) (r1 : RelV kv ku) (r2 : RelV vv vu)
    (h : ∀ o h' tk, Heap.SameBut D s.heap h' → (∃ q, h'.get? D = some q) → (∀ H', ObjOk X.prog X.w H' h' D o) → (∀ H', H' D = some o → Kp H H' → Ow X.K X.w H' (.dict (dput kvs k d)) (.ref D)) → Q () { s with heap := h', toks := tk }) :
    wpAny (model X.prog X.w) A (dictSet D ku vu) Q E s :=
  dict_gen I ow hk hz rk rd r1 r2 (fun key vs h1 h2 h3 h4 => wpAny_dictSet_pairs (hsz := h3) h1 h2 fun h' dd sb => h4 h' _ dd sb)
    (fun nk b xs e h1 h2 h3 h4 => by subst e; exact wpAny_dictSet_heap (knd := nestedKind X.prog X.w) (hsz := h3) (show A.units + 8 < cLine by omega) h1 h2 fun h' dd sb => h4 h' _ dd sb) h
theorem dict_item {E : Value → Shared → Prop} {A : Around} {D : Addr} {kvs : List (PyData × PyData)} {k d : PyData} {kv vv : V} {ku vu : Value} {Q : Unit → Shared → Prop} (I : Inv X pins σ H s) (hu : A.units + 100 < cLine) (ow : Ow X.K X.w H (.dict kvs) (.ref D)) (hk : kOk kvs k = true) (hz : kvs.length < maxLen)
    (rk : Rp X.K X.w H k kv) (rd : Rp X.K X.w H d vv) (r1 : RelV kv ku) (r2 : RelV vv vu)
    (h : ∀ o h' tk, Heap.SameBut D s.heap h' → (∃ q, h'.get? D = some q) → (∀ H', ObjOk X.prog X.w H' h' D o) → (∀ H', H' D = some o → Kp H H' → Ow X.K X.w H' (.dict (dput kvs k d)) (.ref D)) → Q () { s with heap := h', toks := tk }) :
    wpAny (model X.prog X.w) A (setItem (.ref D) ku vu) Q E s :=
  dict_gen I ow hk hz rk rd r1 r2 (fun key vs h1 h2 h3 h4 => wpAny_setItem_pairs (hsz := h3) h1 h2 fun h' dd sb => h4 h' _ dd sb)
    (fun nk b xs e h1 h2 h3 h4 => by subst e; exact wpAny_setItem_heap (knd := nestedKind X.prog X.w) (hsz := h3) (show A.in1.units + 8 < cLine by rw [Around.in1_units]; omega) h1 h2 fun h' dd sb => h4 h' _ dd sb) h
end
end Ld
/-! text LdQ -/
set_option Elab.async false
set_option linter.all false
set_option maxRecDepth 100000
set_option maxHeartbeats 4000000
namespace Ld
open PySem PySem.Spec L2
open PyProof.Rows hiding St
variable [Fs]

/-! ### statements -/
mutual
/-- what an except suite tells: fields of the error, what it is -/
inductive XV where
  | cst (d : PyData)
  | fld (f : Str)
  | isB (b : Str) (v : Bool)
  | ife (c a b : XV)
  | tup (xs : XVs)
  | lst (xs : XVs)
inductive XVs where
  | nil
  | cons (x : XV) (r : XVs)
end
/-- an except suite -/
inductive Hd where
  | ret (x : XV)
  | asg (j : Nat) (x : XV)
mutual
inductive S where
  | pass
  | brk
  | cont
  | ret (e : E)
  | expr (e : E)
  /-- target = e, the value to keep -/
  | asg (t : Tg) (e : E)
  /-- name = a new list or dict, to be written -/
  | own (i : Nat) (e : E)
  /-- one's own list or dict is written no more -/
  | frz (i : Nat)
  | app (i : Nat) (e : E)
  | ext (i : Nat) (e : E)
  | put (i : Nat) (k v : E)
  | aug (i : Nat) (e : E)
  /-- pen[1] = e, pen[2] = e -/
  | pen1 (i : Nat) (e : E)
  | pen2 (i : Nat) (e : E)
  /-- return [e, 0, 0] -/
  | mkpen (e : E)
  | ife (c : E) (a b : Ss)
  | loop (t : Tg) (it : E) (b : Ss)
  | loopO (i : Nat) (t : Tg) (en : Bool) (b : Ss)
  | while (n : Nat) (c : E) (b : Ss)
  | raise (c : Nat) (fn : List Str) (es : Es)
  /-- try: one statement; except class c as slot i: h -/
  | try_ (s : S) (c : Nat) (i : Nat) (h : Hd)
inductive Ss where
  | nil
  | cons (s : S) (r : Ss)
end
inductive Fl where
  | nx (δ : Env')
  | rt (x : DV)
  | bk (δ : Env')
  | ct (δ : Env')
def ownAt (δ : Env') (i : Nat) : M PyData := match δ[i]? with
  | some (some (.own x)) => rt x
  | _ => no
/-- one's own list -/
def ownL (δ : Env') (i : Nat) : M (List PyData) := bnd (ownAt δ i) fun x => match x with
  | .list xs => rt xs
  | _ => no
def appD (xs ys : List PyData) : Option PyData := match decide (xs.length + ys.length ≤ maxLen) with
  | true => some (.list (xs ++ ys))
  | false => none
def putD : PyData → PyData → PyData → Option PyData
  | .dict kvs, k, v => (match kOk kvs k && decide (kvs.length < maxLen) with
    | true => some (.dict (dput kvs k v))
    | false => none)
  | .list xs, .int k, v => (match ixN xs.length k with
    | some j => some (.list (xs.set j v))
    | none => none)
  | _, _, _ => none
def penOf : M Pen := fun g => match g with
  | some p => .ok p g
  | none => .no
def setG (p : Pen) : M Unit := fun _ => .ok () (some p)
/-- pen[1] = .., pen[2] = .. -/
def penS (x m : M DV) (f : Pen → Int → Pen) (δ : Env') : M Fl := bnd x fun x => match x with
  | .pen => bnd m fun y => bnd (intO y) fun o => match o with
    | some n => bnd penOf fun p => bnd (setG (f p n)) fun _ => rt (.nx δ)
    | none => no
  | _ => no
/-- the turns of a loop -/
def turns (f : PyData → Env' → M Fl) : List PyData → Env' → M Fl
  | [], δ => rt (.nx δ)
  | d :: r, δ => bnd (f d δ) fun fl => match fl with
    | .nx δ' => turns f r δ'
    | .ct δ' => turns f r δ'
    | .bk δ' => rt (.nx δ')
    | .rt x => rt (.rt x)
def whiles (c : Env' → M Bool) (b : Env' → M Fl) : Nat → Env' → M Fl
  | 0, _ => no
  | n + 1, δ => bnd (c δ) fun k => match k with
    | false => rt (.nx δ)
    | true => bnd (b δ) fun fl => match fl with
      | .nx δ' => whiles c b n δ'
      | .ct δ' => whiles c b n δ'
      | .bk δ' => rt (.nx δ')
      | .rt x => rt (.rt x)
/-- the same list or dict stands there -/
def sameOwn (δ δ' : Env') (i : Nat) : Bool := match δ[i]?, δ'[i]? with
  | some (some (.own x)), some (some (.own y)) => beqD x y
  | _, _ => false
/-- behind a turn over slot i -/
def lentT (δ : Env') (i : Nat) (m : M Fl) : M Fl := bnd m fun fl => match fl with
  | .nx δ' => (match sameOwn δ δ' i with
    | true => rt (.nx δ')
    | false => no)
  | .ct δ' => (match sameOwn δ δ' i with
    | true => rt (.ct δ')
    | false => no)
  | fl => rt fl
def free (L : List Nat) (is : List Nat) : Bool := is.all fun i => !L.contains i
/-- what follows -/
def thenS (r : Env' → M Fl) : Fl → M Fl
  | .nx δ' => r δ'
  | .bk δ' => rt (.bk δ')
  | .ct δ' => rt (.ct δ')
  | .rt x => rt (.rt x)
def grdB {α : Type} (b : Bool) (m : M α) : M α := match b with
  | true => m
  | false => no
mutual
def evX (fs : List (Str × PyData)) : XV → Option PyData
  | .cst d => some d
  | .fld f => fs.lookup f
  | .isB _ v => some (.bool v)
  | .ife c a b => match evX fs c with
    | some (.bool true) => evX fs a
    | some (.bool false) => evX fs b
    | _ => none
  | .tup xs => match evXs fs xs with
    | some ds => some (.tuple ds)
    | none => none
  | .lst xs => match evXs fs xs with
    | some ds => some (.list ds)
    | none => none
def evXs (fs : List (Str × PyData)) : XVs → Option (List PyData)
  | .nil => some []
  | .cons x r => match evX fs x with
    | some d => (match evXs fs r with
      | some ds => some (d :: ds)
      | none => none)
    | none => none
end
/-- an except suite behind an error in slot i -/
def evH (fs : List (Str × PyData)) (δ : Env') (i : Nat) : Hd → M Fl
  | .ret x => bnd (ofO (evX fs x)) fun y => rt (.rt (.d y))
  | .asg j x => grdB (decide (j < δ.length)) (bnd (ofO (evX fs x)) fun y => rt (.nx (((δ.set i none).set j (some (.val y))).set i none)))
/-- the except clause of class c behind a result -/
def tryR (c : Nat) (f : List (Str × PyData) → M Fl) : Res Fl → Res Fl
  | .exc c' fs g' => (match decide (c = c') with
    | true => f fs g'
    | false => .exc c' fs g')
  | r => r
def hdSlots : Hd → List Nat
  | .ret _ => []
  | .asg j _ => [j]
mutual
def evS : S → List Nat → Env' → M Fl
  | .pass, _, δ => rt (.nx δ)
  | .brk, _, δ => rt (.bk δ)
  | .cont, _, δ => rt (.ct δ)
  | .ret e, _, δ => bnd (ev false e δ) fun x => rt (.rt x)
  | .expr e, _, δ => bnd (ev true e δ) fun _ => rt (.nx δ)
  | .asg t e, L, δ => grdB (free L t.slots) (bnd (ev false e δ) fun x => match x, t with
    | .d d, t => bnd (ofO (asgT t d δ)) fun δ' => rt (.nx δ')
    | .pen, .nm i => rt (.nx (δ.set i (some .pen)))
    | .pen, .tp _ => no)
  | .own i e, L, δ => grdB (free L [i]) (bnd (ev false e δ) fun x => bnd (dat x) fun d => match decide (i < δ.length) && mutD (.d d) with
    | true => rt (.nx (δ.set i (some (.own d))))
    | false => no)
  | .frz i, L, δ => grdB (free L [i]) (bnd (ownAt δ i) fun d => rt (.nx (δ.set i (some (.val d)))))
  | .app i e, L, δ => grdB (free L [i]) (bnd (ownL δ i) fun x => bnd (ev false e δ) fun y => bnd (dat y) fun d => bnd (ofO (appD x [d])) fun x' => rt (.nx (δ.set i (some (.own x')))))
  | .ext i e, L, δ => grdB (free L [i]) (bnd (ownL δ i) fun x => bnd (itmM (ev true e δ)) fun ds => bnd (ofO (appD x ds)) fun x' => rt (.nx (δ.set i (some (.own x')))))
  | .put i k v, L, δ => grdB (free L [i]) (bnd (ev false v δ) fun y => bnd (ownAt δ i) fun x => bnd (ev false k δ) fun z => bnd (dat y) fun d => bnd (dat z) fun kd => bnd (ofO (putD x kd d)) fun x' => rt (.nx (δ.set i (some (.own x')))))
  | .aug i e, L, δ => grdB (free L [i]) (bnd (slotV false δ i) fun x => bnd (ev false e δ) fun y => bnd (intO x) fun a => bnd (intO y) fun b => match a, b with
    | some a, some b => rt (.nx (δ.set i (some (.val (.int (a + b))))))
    | _, _ => no)
  | .pen1 i e, _, δ => penS (slotV false δ i) (ev false e δ) (fun p n => { p with seat := n }) δ
  | .pen2 i e, _, δ => penS (slotV false δ i) (ev false e δ) (fun p n => { p with left := n }) δ
  | .mkpen e, _, δ => bnd (ev false e δ) fun x => bnd (dat x) fun d => match d with
    | .list ds => bnd (ofO (intsD ds)) fun ns => fun g => match g with
      | none => .ok (.rt .pen) (some ⟨ns, 0, 0⟩)
      | some _ => .no
    | _ => no
  | .ife c a b, L, δ => bnd (tst (ev true c δ)) fun k => match k with
    | true => evSs a L δ
    | false => evSs b L δ
  | .loop t it b, L, δ => grdB (free L t.slots) (bnd (itmM (ev false it δ)) fun ds => turns (fun d δ => bnd (ofO (asgT t d δ)) fun δ' => evSs b L δ') ds δ)
  | .loopO i t en b, L, δ => grdB (free (i :: L) t.slots) (bnd (ownAt δ i) fun x => bnd (ofO (itemsD x)) fun ds => turns (fun d δ => lentT δ i (bnd (ofO (asgT t d δ)) fun δ' => evSs b (i :: L) δ')) (match en with
    | true => enumD 0 ds
    | false => ds) δ)
  | .while n c b, L, δ => whiles (fun δ => tst (ev true c δ)) (fun δ => evSs b L δ) n δ
  | .raise c fn es, _, δ => bnd (evs false es δ) fun xs => bnd (datas xs) fun ds => fun g => .exc c (fn.zip ds) g
  | .try_ s c i h, L, δ => grdB (decide (i < δ.length) && free L (i :: hdSlots h)) fun g => tryR c (fun fs => evH fs δ i h) (evS s L δ g)
def evSs : Ss → List Nat → Env' → M Fl
  | .nil, _, δ => rt (.nx δ)
  | .cons s r, L, δ => bnd (evS s L δ) (thenS fun δ' => evSs r L δ')
end
end Ld
/-! text LdR -/
set_option Elab.async false
set_option linter.all false
set_option maxRecDepth 100000
set_option maxHeartbeats 4000000
namespace Ld
open PySem PySem.Spec L2
open PyProof.Rows hiding St
variable [Fs]

/-- what stays through statements: tuples, locked things; the slots that are lent -/
def Rl (L : List Nat) (σ : St) (H : Hp) (σ' : St) (H' : Hp) : Prop := Kp H H' ∧ ∀ i ∈ L, σ'[i]? = σ[i]?
theorem Rl.refl {L : List Nat} {σ : St} {H : Hp} : Rl L σ H σ H := ⟨Kp.refl H, fun _ _ => rfl⟩
theorem Rl.trans {L : List Nat} {σ σ1 σ2 : St} {H H1 H2 : Hp} (a : Rl L σ H σ1 H1) (b : Rl L σ1 H1 σ2 H2) : Rl L σ H σ2 H2 := ⟨a.1.trans b.1, fun i h => (b.2 i h).trans (a.2 i h)⟩
section
variable (K : PySem.W.Frag) (w : World) (ex : EX) (W : WX) (HB : Hp) (pb : Option Addr) (L : List Nat)
def postS (σ : St) (H : Hp) (x : Res Fl) (D : Ends) : Prop := match x with
  | .ok (.nx δ') g' => ∀ σ' H' pa', StOk K w HB pb σ' H' pa' δ' g' → Rl L σ H σ' H' → D.nx σ' H'
  | .ok (.bk δ') g' => ∀ σ' H' pa', StOk K w HB pb σ' H' pa' δ' g' → Rl L σ H σ' H' → D.bk σ' H'
  | .ok (.ct δ') g' => ∀ σ' H' pa', StOk K w HB pb σ' H' pa' δ' g' → Rl L σ H σ' H' → D.ct σ' H'
  | .ok (.rt x) g' => ∀ v H' pa', Stp K w HB pb H' pa' g' → DvOk .pure K w H' pa' x v → D.rt v H'
  | .exc c fs g' => ∀ C d σ' H' pa' δ', StOk K w HB pb σ' H' pa' δ' g' → ex c fs H' C d → W C d σ' H'
  | .no => False
def tS (s : S) : TS := fun D σ H => ∃ δ g pa, StOk K w HB pb σ H pa δ g ∧ postS K w ex W HB pb L σ H (evS s L δ g) D
def tSs (s : Ss) : TS := fun D σ H => ∃ δ g pa, StOk K w HB pb σ H pa δ g ∧ postS K w ex W HB pb L σ H (evSs s L δ g) D
end
section
variable {X : Cx} {ex : EX} {W : WX} {HB : Hp} {pb : Option Addr} {r : Md} {σ σ1 : St} {H H1 : Hp} {pa : Option Addr} {g : G} {δ : Env'} {D : Ends} {L : List Nat}
theorem postS_step (h : Rl L σ H σ1 H1) {x : Res Fl} (p : postS X.K X.w ex W HB pb L σ H x D) : postS X.K X.w ex W HB pb L σ1 H1 x D := by
  cases x with
  | ok x g' =>
    cases x with
    | nx δ' => exact fun σ' H' pa' S q => p σ' H' pa' S (h.trans q)
    | bk δ' => exact fun σ' H' pa' S q => p σ' H' pa' S (h.trans q)
    | ct δ' => exact fun σ' H' pa' S q => p σ' H' pa' S (h.trans q)
    | rt x => exact p
  | exc c fs g' => exact p
  | no => exact p
/-- an expression ahead -/
theorem sE {e : E} {f : DV → M Fl} (S : StOk X.K X.w HB pb σ H pa δ g) (p : postS X.K X.w ex W HB pb L σ H (bnd (ev r.b e δ) f g) D) :
    TX X ex W HB pb r e σ H fun v H1 => ∃ x g1 p1, StOk X.K X.w HB pb σ H1 p1 δ g1 ∧ Stp X.K X.w H pa H1 p1 g1 ∧ DvOk r X.K X.w H1 p1 x v ∧ (r = .own → mutD x = true → ∀ a, v = .ref a → H a = none) ∧ postS X.K X.w ex W HB pb L σ H1 (f x g1) D := by
  refine ⟨δ, g, pa, S, ?_⟩
  unfold bnd at p
  cases q : ev r.b e δ g with
  | no => rw [q] at p; exact p.elim
  | exc c fs g' =>
    rw [q] at p
    exact fun C d H' pa' st hx => p C d σ H' pa' δ (S.step st) hx
  | ok x g' =>
    rw [q] at p
    exact fun v H' pa' st dv fr => ⟨x, g', pa', S.step st, st, dv, fr, postS_step ⟨st.kp, fun _ _ => rfl⟩ p⟩
theorem sT {e : E} {f : Bool → M Fl} (S : StOk X.K X.w HB pb σ H pa δ g) (p : postS X.K X.w ex W HB pb L σ H (bnd (tst (ev true e δ)) f g) D) :
    tT X.K X.w ex W HB pb e σ H fun k H1 => ∃ g1 p1, StOk X.K X.w HB pb σ H1 p1 δ g1 ∧ Stp X.K X.w H pa H1 p1 g1 ∧ postS X.K X.w ex W HB pb L σ H1 (f k g1) D := by
  refine ⟨δ, g, pa, S, ?_⟩
  unfold bnd at p
  cases q : tst (ev true e δ) g with
  | no => rw [q] at p; exact p.elim
  | exc c fs g' =>
    rw [q] at p
    exact fun C d H' pa' st hx => p C d σ H' pa' δ (S.step st) hx
  | ok x g' =>
    rw [q] at p
    exact fun H' pa' st => ⟨g', pa', S.step st, st, postS_step ⟨st.kp, fun _ _ => rfl⟩ p⟩
theorem s_dat {x : DV} {f : PyData → M Fl} (h : postS X.K X.w ex W HB pb L σ H (bnd (dat x) f g) D) : ∃ d, x = .d d ∧ postS X.K X.w ex W HB pb L σ H (f d g) D := by
  cases x with
  | d d => exact ⟨d, rfl, h⟩
  | pen => exact h.elim
theorem s_ofO {α : Type} {x : Option α} {f : α → M Fl} (h : postS X.K X.w ex W HB pb L σ H (bnd (ofO x) f g) D) : ∃ d, x = some d ∧ postS X.K X.w ex W HB pb L σ H (f d g) D := by
  cases x with
  | some d => exact ⟨d, rfl, h⟩
  | none => exact h.elim
theorem s_grd {b : Bool} {m : M Fl} (h : postS X.K X.w ex W HB pb L σ H (grdB b m g) D) : b = true ∧ postS X.K X.w ex W HB pb L σ H (m g) D := by
  cases b with
  | true => exact ⟨rfl, h⟩
  | false => exact h.elim
theorem s_int {x : DV} {f : Option Int → M Fl} (h : postS X.K X.w ex W HB pb L σ H (bnd (intO x) f g) D) : ∃ i, x = .d (.int i) ∧ postS X.K X.w ex W HB pb L σ H (f (some i) g) D := by
  cases x with
  | pen => exact h.elim
  | d d => cases d <;> first | exact ⟨_, rfl, h⟩ | exact h.elim
theorem s_own {i : Nat} {f : PyData → M Fl} (h : postS X.K X.w ex W HB pb L σ H (bnd (ownAt δ i) f g) D) : ∃ x, δ[i]? = some (some (.own x)) ∧ postS X.K X.w ex W HB pb L σ H (f x g) D := by
  unfold ownAt at h
  cases q : δ[i]? with
  | none => rw [q] at h; exact h.elim
  | some o =>
    rw [q] at h
    cases o with
    | none => exact h.elim
    | some s =>
      cases s with
      | own x => exact ⟨x, rfl, h⟩
      | val x => exact h.elim
      | pen => exact h.elim
theorem free_mem {is : List Nat} (h : free L is = true) : ∀ i ∈ L, i ∉ is := fun i hi hn => by
  unfold free at h
  have := List.all_eq_true.mp h i hn
  simp [hi] at this
theorem s_ownL {i : Nat} {f : List PyData → M Fl} (h : postS X.K X.w ex W HB pb L σ H (bnd (ownL δ i) f g) D) : ∃ x, δ[i]? = some (some (.own (.list x))) ∧ postS X.K X.w ex W HB pb L σ H (f x g) D := by
  unfold ownL at h
  rw [bnd_assoc] at h
  obtain ⟨x, hx, h⟩ := s_own h
  cases x <;> first | exact ⟨_, hx, h⟩ | exact h.elim
/-! ### the plain statements -/
theorem n_pass {pos : Pos} : PS X (.Pass pos) (tS X.K X.w ex W HB pb L .pass) := by
  refine ps_mono ps_pass fun D σ H h => ?_
  obtain ⟨δ, g, pa, S, p⟩ := h
  exact p σ H pa S Rl.refl
theorem n_brk {pos : Pos} : PS X (.Break pos) (tS X.K X.w ex W HB pb L .brk) := by
  refine ps_mono ps_break fun D σ H h => ?_
  obtain ⟨δ, g, pa, S, p⟩ := h
  exact p σ H pa S Rl.refl
theorem n_cont {pos : Pos} : PS X (.Continue pos) (tS X.K X.w ex W HB pb L .cont) := by
  refine ps_mono ps_continue fun D σ H h => ?_
  obtain ⟨δ, g, pa, S, p⟩ := h
  exact p σ H pa S Rl.refl
theorem n_doc {x j} {pos pos' : Pos} : PS X (.Expr (.Constant (.str x) j pos) pos') (tS X.K X.w ex W HB pb L .pass) := by
  refine ps_mono ps_doc fun D σ H h => ?_
  obtain ⟨δ, g, pa, S, p⟩ := h
  exact p σ H pa S Rl.refl
theorem n_ret {e : E} {x : Expr} {pos : Pos} (ha : PE X x (TX X ex W HB pb .pure e)) : PS X (.Return (some x) pos) (tS X.K X.w ex W HB pb L (.ret e)) := by
  refine ps_mono (ps_ret ha) fun D σ H h => ?_
  obtain ⟨δ, g, pa, S, p⟩ := h
  simp only [evS] at p
  obtain ⟨δ1, g1, p1, S1, q⟩ := sE (r := .pure) S p
  exact ⟨δ1, g1, p1, S1, post_mono q fun v H1 ⟨x, g2, p2, S2, st, dv, _, p⟩ => p v H1 p2 S2.base dv⟩
theorem n_retN {pos : Pos} : PS X (.Return none pos) (tS X.K X.w ex W HB pb L (.ret (.cst .none))) := by
  refine ps_mono ps_retN fun D σ H h => ?_
  obtain ⟨δ, g, pa, S, p⟩ := h
  exact p .non H pa S.base .none
/-- a value that is no comprehension -/
def noComp : Expr → Bool
  | .ListComp .. => false
  | .SetComp .. => false
  | .DictComp .. => false
  | _ => true
theorem noComp_sw {x : Expr} (h : noComp x = true) (t : Option Expr) (l : Nat) (env : Env) : swapsWith x t l env = pure false := by
  cases x <;> first | rfl | cases h
theorem noComp_sole {x : Expr} (h : noComp x = true) (t : Expr) (l : Nat) (env : Env) : swapsWithSole [t] x l env = pure false := noComp_sw h (some t) l env
theorem n_expr {e : E} {x : Expr} {pos : Pos} (ha : PE X x (TX X ex W HB pb .read e)) (hx : noComp x = true) : PS X (.Expr x pos) (tS X.K X.w ex W HB pb L (.expr e)) := by
  refine ps_mono (ps_expr ha (noComp_sw hx _ _ _)) fun D σ H h => ?_
  obtain ⟨δ, g, pa, S, p⟩ := h
  simp only [evS] at p
  obtain ⟨δ1, g1, p1, S1, q⟩ := sE (r := .read) S p
  exact ⟨δ1, g1, p1, S1, post_mono q fun v H1 ⟨x, g2, p2, S2, st, dv, _, p⟩ => p σ H1 p2 S2 Rl.refl⟩
/-- a value is kept under a target -/
theorem asg_in {t : Tg} {e : E} (h : tS X.K X.w ex W HB pb L (.asg t e) D σ H) : TX X ex W HB pb .pure e σ H fun v H1 => gT X.K t v σ H1 D.nx := by
  obtain ⟨δ, g, pa, S, p⟩ := h
  simp only [evS] at p
  obtain ⟨fr, p⟩ := s_grd p
  have fr := free_mem fr
  obtain ⟨δ1, g1, p1, S1, q⟩ := sE (r := .pure) S p
  refine ⟨δ1, g1, p1, S1, post_mono q fun v H1 ⟨x, g2, p2, S2, st, dv, _, p⟩ => ?_⟩
  cases x with
  | d d =>
    obtain ⟨δ', hA, p⟩ := s_ofO p
    exact asgT_ok hA S2 dv fun σ' S' _ ek => p σ' H1 p2 S' ⟨Kp.refl _, fun i hi => ek i (fr i hi)⟩
  | pen =>
    cases t with
    | tp ts => exact p.elim
    | nm i =>
      refine p _ H1 p2 ?_ ⟨Kp.refl _, fun j hj => ?_⟩
      · by_cases hi : i < δ.length
        · exact S2.setS (s := .pen) dv hi fun _ e => by cases e
        · have e1 : σ.set i (some v) = σ := List.set_eq_of_length_le (by rw [S2.len]; omega)
          have e2 : δ.set i (some .pen) = δ := List.set_eq_of_length_le (by omega)
          rw [e1, e2]
          exact S2
      · exact List.getElem?_set_ne fun e => fr j hj (by simp [Tg.slots, e])
theorem n_asg {t : Tg} {e : E} {tg x : Expr} {pos : Pos} (ha : PE X x (TX X ex W HB pb .pure e)) (hg : PG X tg (gT X.K t)) (hs : swapsWithSole [tg] x pos.line X.env = pure false) (hw : swappedStores [tg] x X.env = pure none) (hn : nice tg = true) :
    PS X (.Assign [tg] x pos) (tS X.K X.w ex W HB pb L (.asg t e)) := by
  refine ps_mono (ps_asg ha hg hs hw (by cases tg <;> first | rfl | cases hn)) fun D σ H h => asg_in h
/-! ### one after another -/
theorem n_nil : PSs X [] (tSs X.K X.w ex W HB pb L .nil) := by
  refine pss_mono pss_nil fun D σ H h => ?_
  obtain ⟨δ, g, pa, S, p⟩ := h
  exact p σ H pa S Rl.refl
theorem n_cons {s : S} {ss : Ss} {st : Stmt} {sts : List Stmt} (h1 : PS X st (tS X.K X.w ex W HB pb L s)) (h2 : PSs X sts (tSs X.K X.w ex W HB pb L ss)) : PSs X (st :: sts) (tSs X.K X.w ex W HB pb L (.cons s ss)) := by
  refine pss_mono (pss_cons h1 h2) fun D σ H h => ?_
  obtain ⟨δ, g, pa, S, p⟩ := h
  simp only [evSs] at p
  refine ⟨δ, g, pa, S, ?_⟩
  unfold bnd at p
  cases q : evS s L δ g with
  | no => rw [q] at p; exact p.elim
  | exc c fs g' => rw [q] at p; exact p
  | ok x g' =>
    rw [q] at p
    cases x with
    | nx δ' => exact fun σ' H' pa' S' hr => ⟨δ', g', pa', S', postS_step hr p⟩
    | bk δ' => exact p
    | ct δ' => exact p
    | rt x => exact p
theorem n_if {c : E} {a b : Ss} {x : Expr} {as bs : List Stmt} {pos : Pos} (hc : PT X x (tT X.K X.w ex W HB pb c)) (ha : PSs X as (tSs X.K X.w ex W HB pb L a)) (hb : PSs X bs (tSs X.K X.w ex W HB pb L b)) : PS X (.If x as bs pos) (tS X.K X.w ex W HB pb L (.ife c a b)) := by
  refine ps_mono (ps_if hc ha hb) fun D σ H h => ?_
  obtain ⟨δ, g, pa, S, p⟩ := h
  simp only [evS] at p
  obtain ⟨δ1, g1, p1, S1, q⟩ := sT S p
  refine ⟨δ1, g1, p1, S1, postG_mono q fun k _ H1 _ ⟨g2, p2, S2, st, p⟩ => ?_⟩
  cases k with
  | true => exact ⟨δ, g2, p2, S2, p⟩
  | false => exact ⟨δ, g2, p2, S2, p⟩
/-! ### one's own lists and dicts -/
theorem Kp.upd {a : Addr} {o : HO} (f : Fill H a) : Kp H (upd H a o) := by
  obtain ⟨u, h, n1, n2⟩ := f
  refine ⟨fun b xs q => ?_, fun b c x q => ?_⟩
  · rw [upd_ne]
    · exact q
    · rintro rfl
      rw [h] at q
      exact n1 _ (Option.some.inj q)
  · rw [upd_ne]
    · exact q
    · rintro rfl
      rw [h] at q
      exact n2 _ _ (Option.some.inj q)
/-- where one's own list or dict stands -/
theorem Ow.at {K : PySem.W.Frag} {w : World} {d : PyData} {v : V} (h : Ow K w H d v) : ∃ a u, v = .ref a ∧ H a = some u ∧ Mut (some u) ∧ Fill H a := by
  cases d with
  | list ds =>
    obtain ⟨a, vs, e, h, r⟩ := h
    exact ⟨a, _, e, h, trivial, _, h, fun xs => by simp, fun b u => by simp⟩
  | dict kvs =>
    obtain ⟨a, e, ⟨ns, h, r⟩ | ⟨ns, h, r⟩⟩ := h
    · exact ⟨a, _, e, h, trivial, _, h, fun xs => by simp, fun b u => by simp⟩
    · exact ⟨a, _, e, h, trivial, _, h, fun xs => by simp, fun b u => by simp⟩
  | _ => exact h.elim
theorem Ow.other {K : PySem.W.Frag} {w : World} {d : PyData} {v : V} {a : Addr} {o : HO} (h : Ow K w H d v) (f : Fill H a) (n : v ≠ .ref a) : Ow K w (upd H a o) d v := by
  have k := Kp.upd (o := o) f
  cases d with
  | list ds =>
    obtain ⟨b, vs, e, h, r⟩ := h
    exact ⟨b, vs, e, by rw [upd_ne (fun z => n (by rw [e, z]))]; exact h, r.kp k⟩
  | dict kvs =>
    obtain ⟨b, e, ⟨ns, h, r⟩ | ⟨ns, h, r⟩⟩ := h
    · exact ⟨b, e, .inl ⟨ns, by rw [upd_ne (fun z => n (by rw [e, z]))]; exact h, r.kp k⟩⟩
    · exact ⟨b, e, .inr ⟨ns, by rw [upd_ne (fun z => n (by rw [e, z]))]; exact h, r.kp k⟩⟩
  | _ => exact h.elim
/-- the object of slot i is written -/
theorem StOk.write {K : PySem.W.Frag} {w : World} (S : StOk K w HB pb σ H pa δ g) {i : Nat} {x : PyData} {a : Addr} {o : HO} {s : Slot} (hi : δ[i]? = some (some (.own x))) (hv : σ[i]? = some (some (.ref a))) (f : Fill H a) (np : pa ≠ some a) (nb : HB a = none)
    (hs : SlotOk K w HB (upd H a o) pa s (.ref a)) (hs2 : s ≠ .pen) : StOk K w HB pb σ (upd H a o) pa (δ.set i (some s)) g := by
  have k := Kp.upd (o := o) f
  have hil : i < δ.length := (List.getElem?_eq_some_iff.mp hi).1
  have old : ∀ j, j ≠ i → ∀ t, δ[j]? = some (some t) → ∃ v, σ[j]? = some (some v) ∧ SlotOk K w HB (upd H a o) pa t v := fun j hj t ht => by
    obtain ⟨v, h1, h2⟩ := S.slot j t ht
    refine ⟨v, h1, ?_⟩
    cases t with
    | val d => exact Rp.kp k h2
    | own d =>
      refine ⟨h2.1.other f fun e => ?_, h2.2⟩
      exact S.apart j i d x hj ht hi (by rw [h1, hv, e])
    | pen => exact h2
  exact {
    len := by rw [List.length_set, S.len]
    slot := fun j t h => by
      rcases set_at h with ⟨e, e2⟩ | ⟨e, h⟩
      · subst e
        cases e2
        exact ⟨_, hv, hs⟩
      · exact old j (Ne.symm e) t h
    apart := fun j l y z hjl h1 h2 => by
      rcases set_at h1 with ⟨e, e2⟩ | ⟨e, h1'⟩ <;> rcases set_at h2 with ⟨q, q2⟩ | ⟨q, h2'⟩
      · exact absurd (e.symm.trans q) hjl
      · subst e; exact S.apart _ _ x z hjl hi h2'
      · subst q; exact S.apart _ _ y x hjl h1' hi
      · exact S.apart _ _ y z hjl h1' h2'
    base := {
      gr := fun b u hb n => by
        rw [upd_ne (fun e => by rw [e, nb] at hb; cases hb)]
        exact S.base.gr b u hb n
      kp := S.base.kp.trans k
      pen := by
        refine S.base.pen.kp k fun b u hb hp => ?_
        rw [upd_ne (fun e => np (by rw [hp, e]))]
        exact hb
      same := S.base.same } }
/-- a slot of one's own -/
theorem StOk.own {K : PySem.W.Frag} {w : World} (S : StOk K w HB pb σ H pa δ g) {i : Nat} {x : PyData} (hi : δ[i]? = some (some (.own x))) : ∃ a, σ[i]? = some (some (.ref a)) ∧ Ow K w H x (.ref a) ∧ pa ≠ some a ∧ HB a = none := by
  obtain ⟨v, h1, h2, h3⟩ := S.slot i _ hi
  obtain ⟨a, u, rfl, _⟩ := h2.at
  exact ⟨a, h1, h2, (h3 a rfl).1, (h3 a rfl).2⟩
/-! ### ghosts -/
/-- the list or the dict of slot i is locked for good -/
theorem n_frz {i : Nat} {ss : Ss} {sts : List Stmt} (h : PSs X sts (tSs X.K X.w ex W HB pb L ss)) : PSs X sts (tSs X.K X.w ex W HB pb L (.cons (.frz i) ss)) := by
  refine ⟨fun pins s σ H D I q => ?_⟩
  obtain ⟨δ, g, pa, S, p⟩ := q
  have p : postS X.K X.w ex W HB pb L σ H (bnd (grdB (free L [i]) (bnd (ownAt δ i) fun d => rt (Fl.nx (δ.set i (some (Slot.val d)))))) (thenS fun δ' => evSs ss L δ') g) D := by
    simpa only [evSs, evS] using p
  cases fr : free L [i] with
  | false => rw [fr] at p; exact p.elim
  | true =>
    rw [fr] at p
    cases q : δ[i]? with
    | none => simp [grdB, ownAt, q, bnd, no, postS, thenS] at p
    | some o =>
      cases o with
      | none => simp [grdB, ownAt, q, bnd, no, postS, thenS] at p
      | some sl =>
        cases sl with
        | val d => simp [grdB, ownAt, q, bnd, no, postS, thenS] at p
        | pen => simp [grdB, ownAt, q, bnd, no, postS, thenS] at p
        | own d =>
          have p : postS X.K X.w ex W HB pb L σ H (evSs ss L (δ.set i (some (.val d))) g) D := by
            simpa [grdB, ownAt, q, bnd, rt, thenS] using p
          obtain ⟨a, hv, ow, np, nb⟩ := S.own q
          obtain ⟨a', u, e, hu, mu, f⟩ := ow.at
          cases e
          obtain ⟨od, I2⟩ := I.lock hu mu
          have k := Kp.upd (o := .frz od u) f
          refine h.run pins s σ _ D I2 ⟨_, g, pa, S.write (s := .val d) q hv f np nb ?_ (by simp), postS_step ⟨k, fun _ _ => rfl⟩ p⟩
          show Rp X.K X.w _ d (.ref a)
          cases d with
          | list ds =>
            obtain ⟨b, vs, e, hb, r⟩ := ow
            cases e
            rw [hu] at hb
            cases hb
            exact .lst (.inl ⟨_, upd_same⟩) (r.kp k)
          | dict kvs =>
            obtain ⟨b, e, ⟨ns, hb, r⟩ | ⟨ns, hb, r⟩⟩ := ow
            · cases e
              rw [hu] at hb
              cases hb
              exact .dct upd_same (r.kp k)
            · cases e
              rw [hu] at hb
              cases hb
              exact .dcl upd_same (r.kp k)
          | _ => exact ow.elim
end
end Ld
/-! text LdS -/
set_option Elab.async false
set_option linter.all false
set_option maxRecDepth 100000
set_option maxHeartbeats 4000000
namespace Ld
open PySem PySem.Spec L2
open PyProof.Rows hiding St
variable [Fs]

section
variable {X : Cx} {ex : EX} {W : WX} {HB : Hp} {pb : Option Addr} {r : Md} {σ σ1 : St} {H H1 : Hp} {pa : Option Addr} {g : G} {δ : Env'} {D : Ends} {L : List Nat}
/-- a fresh list or dict of one's own comes to slot i -/
theorem StOk.setOwn {K : PySem.W.Frag} {w : World} {H1 : Hp} {p1 : Option Addr} {g1 : G} (S0 : StOk K w HB pb σ H pa δ g) (S : StOk K w HB pb σ H1 p1 δ g1) {i : Nat} {d : PyData} {v : V} (hi : i < δ.length) (dv : DvOk .own K w H1 p1 (.d d) v) (hm : mutD (.d d) = true) (fr : ∀ a, v = .ref a → H a = none) :
    StOk K w HB pb (σ.set i (some v)) H1 p1 (δ.set i (some (.own d))) g1 := by
  obtain ⟨ow, np⟩ := dv hm
  refine S.setS (s := .own d) ⟨ow, fun a e => ⟨np a e, S0.base.back (fr a e)⟩⟩ hi fun _ _ j y hj hy e => ?_
  obtain ⟨a, hv, ow2, _, _⟩ := S0.own hy
  rw [hv] at e
  have e : V.ref a = v := Option.some.inj (Option.some.inj e)
  obtain ⟨a', u, e', hu, _⟩ := ow2.at
  cases e'
  rw [fr a e.symm] at hu
  cases hu
theorem own_in {i : Nat} {e : E} {D : Ends} (h : tS X.K X.w ex W HB pb L (.own i e) D σ H) : TX X ex W HB pb .own e σ H fun v H1 => gName i v σ H1 D.nx := by
  obtain ⟨δ, g, pa, S, p⟩ := h
  simp only [evS] at p
  obtain ⟨fr, p⟩ := s_grd p
  have fr := free_mem fr
  obtain ⟨δ1, g1, p1, S1, q⟩ := sE (r := .own) S p
  refine ⟨δ1, g1, p1, S1, ?_⟩
  have fresh : ∀ v H1, (∃ x g2 p2, StOk X.K X.w HB pb σ H1 p2 δ g2 ∧ Stp X.K X.w H pa H1 p2 g2 ∧ DvOk .own X.K X.w H1 p2 x v ∧ (Md.own = .own → mutD x = true → ∀ a, v = .ref a → H a = none) ∧ postS X.K X.w ex W HB pb L σ H1 (bnd (dat x) (fun d => match decide (i < δ.length) && mutD (.d d) with | true => rt (Fl.nx (δ.set i (some (.own d)))) | false => no) g2) D) → gName i v σ H1 D.nx := by
    rintro v H1 ⟨x, g2, p2, S2, st, dv, fre, p⟩
    obtain ⟨d, rfl, p'⟩ := s_dat p
    cases hb : decide (i < δ.length) && mutD (.d d) with
    | false => rw [hb] at p'; exact p'.elim
    | true =>
      rw [hb] at p'
      rw [Bool.and_eq_true, decide_eq_true_eq] at hb
      exact p' _ H1 p2 (StOk.setOwn S S2 hb.1 dv hb.2 (fre rfl hb.2)) ⟨Kp.refl _, fun j hj => List.getElem?_set_ne fun e => fr j hj (by simp [e])⟩
  exact post_mono q fresh
theorem n_own (R : Rdy X) {i : Nat} {e : E} {n : Str} {x : Expr} {pos pos' : Pos} (ha : PE X x (TX X ex W HB pb .own e)) (hi : X.N[i]? = some n) (hx : Loc X.env.scope n) (hf : X.fn n = true ∨ X.env.scope.names.lookup n = some .local) (hs : swapsWith x (some (.Name n pos')) pos.line X.env = pure false) :
    PS X (.Assign [.Name n pos'] x pos) (tS X.K X.w ex W HB pb L (.own i e)) :=
  ps_mono (ps_set R.nd hi hx ha hs hf) fun D σ H h => own_in h
/-- name = [..], where the stores are exchanged -/
theorem n_ownLc (R : Rdy X) {i : Nat} {x it c : E} {t : Tg} {y : Str} {tg elt iter : Expr} {ifs : List Expr} {scope : Scope} {own : List (Str × Nat)} {py pos spos : Pos} (hy : X.N[i]? = some y) (hyl : X.env.scope.names.lookup y = some .local)
    (hsw : swapsWith (.ListComp elt [⟨tg, iter, ifs, 0⟩] scope pos) (some (.Name y py)) spos.line X.env = pure true)
    (ok : BlkOk X.N X.env.scope scope own) (hi : PI X tg iter (tI X.K X.w ex W HB pb .read it)) (ho : own.map (·.2) = t.slots)
    (hg : ∀ (s : Shared) (H : Hp) (C : Addr) (cl : List (Str × Addr)) (fp : List Addr), PG (X.blk s H scope (compEnvC scope cl C X.env) fp) tg (gT X.K t))
    (ht : ∀ (s : Shared) (H : Hp) (C : Addr) (cl : List (Str × Addr)) (fp : List Addr), PTs (X.blk s H scope (compEnvC scope cl C X.env) fp) ifs (tC1 X.K X.w ex W0 HB pb c))
    (he : ∀ (s : Shared) (H : Hp) (C : Addr) (cl : List (Str × Addr)) (fp : List Addr), PE (X.blk s H scope (compEnvC scope cl C X.env) fp) elt (tE X.K X.w ex W0 HB pb .pure x))
    (hn : nice iter = true) : PS X (.Assign [.Name y py] (.ListComp elt [⟨tg, iter, ifs, 0⟩] scope pos) spos) (tS X.K X.w ex W HB pb L (.own i (.lc x t it c))) := by
  refine ps_mono (ps_setLc R.calm R.nd hy hyl hsw hi ok hg ht he (nice_fold hn _)) fun D σ H h => ?_
  rw [ho]
  exact lc_read (fun _ _ h => newL_own h) (own_in h)
/-! ### append, extend -/
theorem appD_list {xs ys : List PyData} {z : PyData} (h : appD xs ys = some z) : xs.length + ys.length ≤ maxLen ∧ z = .list (xs ++ ys) := by
  obtain ⟨h1, h2⟩ := mth (show (match decide (xs.length + ys.length ≤ maxLen) with | true => some (PyData.list (xs ++ ys)) | false => none) = some z from h)
  exact ⟨of_decide_eq_true h1, h2.symm⟩
/-- the list of slot i has grown -/
theorem grown {K : PySem.W.Frag} {w : World} (S : StOk K w HB pb σ H pa δ g) {i : Nat} {xs ys : List PyData} {a : Addr} {vs us : List V} (hi : δ[i]? = some (some (.own (.list xs)))) (hv : σ[i]? = some (some (.ref a))) (hH : H a = some (.lst vs)) (ra : RpA K w H xs vs) (rb : RpA K w H ys us) :
    StOk K w HB pb σ (upd H a (.lst (vs ++ us))) pa (δ.set i (some (.own (.list (xs ++ ys))))) g := by
  obtain ⟨a', hv', _, np, nb⟩ := S.own hi
  rw [hv] at hv'
  cases hv'
  have f : Fill H a := ⟨_, hH, fun xs => by simp, fun b u => by simp⟩
  refine S.write (s := .own (.list (xs ++ ys))) hi hv f np nb ⟨⟨a, _, rfl, upd_same, (ra.append rb).kp (Kp.upd f)⟩, fun b e => ?_⟩ (by simp)
  cases e
  exact ⟨np, nb⟩
end
end Ld
namespace Ld
open PySem PySem.Spec L2 Sem
open PyProof.Rows hiding St
variable [Fs]
open PySem.AutoSeq1 (wpAny_loadPart')
theorem ext_tup (l : Addr) (items : Array Value) (n : Nat) (b : Addr) (items2 : Array Value) (n2 : Nat) (dd : Option Addr) (sl : Array (Option Value)) (h0 : ¬(!items.isEmpty && Builtin.List.listTooLong (items.size + items2.size)) = true) (h1 : items.size ≤ sizeLine) (h2 : items.size + items2.size ≤ sizeLine + 1) :
    Meets (Builtin.«list.extend» ⟨[.ref l, .ref b], []⟩) (fun _ R s => s.heap.get? l = some { cls := .type "list", data := .seq items n } ∧ s.heap.get? b = some { cls := .type "tuple", dict := dd, data := .seq items2 n2, slots := sl } ∧
      R (.ok (.ret Value.none)) { s with heap := s.heap.update l (Obj.mapSeq fun x => x ++ items2) }) := by
  refine .of_wp fun prog w A R ⟨hp, g, d, tk, os'⟩ ⟨hl, hb, h⟩ => ?_
  have f1 := AutoSeq1.idx_int; have f2 := AutoSeq1.sub_tuple_tuple; have f3 := AutoSeq1.sub_list_list; have f4 := AutoSeq1.sub_tuple_list; have f5 := AutoSeq1.sub_list_tuple
  have hz : (items ++ items2).size ≤ sizeLine + 1 := by rw [Array.size_append]; exact h2
  wp_walk using (wpAny_updateSeq hl rfl (hz := h1) (_hz' := hz)), wpAny_loadPart' hl, wpAny_loadPart' hb
  exact ⟨_, rfl, h⟩
theorem ext_lst (l : Addr) (items : Array Value) (n : Nat) (b : Addr) (items2 : Array Value) (n2 : Nat) (dd : Option Addr) (sl : Array (Option Value)) (h0 : ¬(!items.isEmpty && Builtin.List.listTooLong (items.size + items2.size)) = true) (h1 : items.size ≤ sizeLine) (h2 : items.size + items2.size ≤ sizeLine + 1) :
    Meets (Builtin.«list.extend» ⟨[.ref l, .ref b], []⟩) (fun _ R s => s.heap.get? l = some { cls := .type "list", data := .seq items n } ∧ s.heap.get? b = some { cls := .type "list", dict := dd, data := .seq items2 n2, slots := sl } ∧
      R (.ok (.ret Value.none)) { s with heap := s.heap.update l (Obj.mapSeq fun x => x ++ items2) }) := by
  refine .of_wp fun prog w A R ⟨hp, g, d, tk, os'⟩ ⟨hl, hb, h⟩ => ?_
  have f1 := AutoSeq1.idx_int; have f2 := AutoSeq1.sub_tuple_tuple; have f3 := AutoSeq1.sub_list_list; have f4 := AutoSeq1.sub_tuple_list; have f5 := AutoSeq1.sub_list_tuple
  have hz : (items ++ items2).size ≤ sizeLine + 1 := by rw [Array.size_append]; exact h2
  wp_walk using (wpAny_updateSeq hl rfl (hz := h1) (_hz' := hz)), wpAny_loadPart' hl, wpAny_loadPart' hb
  exact ⟨_, rfl, h⟩
end Ld
namespace Ld
open PySem PySem.Spec L2
open PyProof.Rows hiding St
variable [Fs]
section
variable {X : Cx} {ex : EX} {W : WX} {HB : Hp} {pb : Option Addr} {r : Md} {σ σ1 : St} {H H1 : Hp} {pa : Option Addr} {g : G} {δ : Env'} {D : Ends} {L : List Nat}
/-- x.extend(e), by values: x's list at l -/
def rExt (K : PySem.W.Frag) : V → List V → Hp → VK → Prop := fun x vs H Q => ∃ l xs zs b, x = .ref l ∧ vs = [.ref b] ∧ H l = some (.lst xs) ∧ xs.length + zs.length ≤ maxLen ∧ (SqL K H b zs ∨ SqT K H b zs) ∧ Q .non (upd H l (.lst (xs ++ zs)))
theorem mt_ext : MtR X "list.extend" (rExt X.K) := by
  intro pins s σ H x vs v us Q I rx rv h
  obtain ⟨l, xs, zs, b, rfl, rfl, hH, hz, hb, q⟩ := h
  cases rx
  obtain ⟨u, rfl, ru⟩ := rv.one
  cases ru
  obtain ⟨z, its, n, r, hl, e⟩ := I.lstM hH
  have hm := maxLen_le
  have fin : ∀ (its2 : List Value), Vals zs its2 → EP X pins σ Q .none { s with heap := s.heap.update l (Obj.mapSeq fun x => x ++ its2.toArray) } := fun its2 r2 =>
    ⟨.non, _, I.lset (its' := its ++ its2) (t' := s.toks) hH e (by simp) (r.append r2) (by rw [List.length_append]; omega), rfl, q⟩
  have long : ∀ (its2 : List Value), its2.length = zs.length → ¬ (!its.toArray.isEmpty && Builtin.List.listTooLong (its.toArray.size + its2.toArray.size)) = true := fun its2 h2 => by
    rw [notLongL (by rw [List.size_toArray, List.size_toArray]; omega), Bool.and_false]
    exact Bool.false_ne_true
  rcases hb with hb | hb
  · obtain ⟨its2, r2, ⟨⟨cls, dd, data, sl⟩, n2, ho, hc, hd, hs⟩, _⟩ := I.list hb
    simp only at hc hd hs
    subst hc hd hs
    have h2 := r2.length
    exact call_meets F.slot_list_extend ⟨_, e, rfl⟩ F.entry_list_extend (F.args_list_extend_2 _ _) (ext_lst l its.toArray n b its2.toArray n2 none sl (long its2 h2.symm) (by rw [List.size_toArray]; omega) (by rw [List.size_toArray, List.size_toArray]; omega)) ⟨e, ho, fin its2 r2⟩
  · obtain ⟨its2, r2, ⟨⟨cls, dd, data, sl⟩, ho, hc, n2, hd⟩, _⟩ := I.tuple hb
    simp only at hc hd
    subst hc hd
    have h2 := r2.length
    exact call_meets F.slot_list_extend ⟨_, e, rfl⟩ F.entry_list_extend (F.args_list_extend_2 _ _) (ext_tup l its.toArray n b its2.toArray n2 dd sl (long its2 h2.symm) (by rw [List.size_toArray]; omega) (by rw [List.size_toArray, List.size_toArray]; omega)) ⟨e, ho, fin its2 r2⟩
end
end Ld
/-! text LdT -/
set_option Elab.async false
set_option linter.all false
set_option maxRecDepth 100000
set_option maxHeartbeats 4000000
namespace Ld
open PySem PySem.Spec L2
open PyProof.Rows hiding St
variable [Fs]

section
variable {X : Cx} {ex : EX} {W : WX} {HB : Hp} {pb : Option Addr} {r : Md} {σ σ1 : St} {H H1 : Hp} {pa : Option Addr} {g : G} {δ : Env'} {D : Ends} {L : List Nat}
theorem few_one {y : Expr} {cpos : Pos} {env : Env} (hy : nice y = true) : ((backTo cpos (starEach [y] env)).all (fun x => !x.1) && (backToKw cpos (keywordEach [] env)).all (fun x => x.1.isSome)
      && decide ([y].length + ([] : List Keyword).length + (if ([] : List Keyword).isEmpty then 0 else 1) < 30)) = true := by
  rw [nice_star hy]; rfl
theorem own_lst {K : PySem.W.Frag} {w : World} (S : StOk K w HB pb σ H pa δ g) {i : Nat} {xs : List PyData} (hi : δ[i]? = some (some (.own (.list xs)))) : ∃ a vs, σ[i]? = some (some (.ref a)) ∧ H a = some (.lst vs) ∧ RpA K w H xs vs := by
  obtain ⟨a, hv, ow, _, _⟩ := S.own hi
  obtain ⟨b, vs, e, h, r⟩ := ow
  cases e
  exact ⟨a, vs, hv, h, r⟩
theorem s_app {i : Nat} {e : E} {n : Str} {y : Expr} {p apos cpos pos : Pos} (hN : X.N[i]? = some n) (hv : Vis X.env.scope n) (hd : (n == ("__debug__" : Str)) = false) (hcd : (n == ("__classdict__" : Str)) = false) (ha : PE X y (TX X ex W HB pb .pure e)) (hy : nice y = true) (hl : (apos.endLine == cpos.line) = true) :
    PS X (.Expr (.Call (.Attribute (.Name n p) "append" apos) [y] [] cpos) pos) (tS X.K X.w ex W HB pb L (.app i e)) := by
  refine ps_mono (ps_expr (pe_bm F.plainAttrs_list F.slot_list_append F.type_list_append mt_append (pe_var hN hv hd hcd) (pa_cons ha pa_nil (nice_star hy [] _)) rfl (few_one hy) hl (nice_star hy [] _) rfl)) fun D σ H h => ?_
  obtain ⟨δ, g, pa, S, q⟩ := h
  simp only [evS] at q
  obtain ⟨fr, q⟩ := s_grd q
  have fr := free_mem fr
  obtain ⟨xs, hx, q⟩ := s_ownL q
  obtain ⟨a, vs, e1, e2, ra⟩ := own_lst S hx
  obtain ⟨δ1, g1, p1, S1, q⟩ := sE (r := .pure) S q
  refine ⟨.ref a, e1, .inl ⟨rfl, vs, SqL.of e2⟩, δ1, g1, p1, S1, post_mono q ?_⟩
  rintro v H1 ⟨z, g2, p2, S2, st, dv, _, q⟩
  obtain ⟨d, rfl, q'⟩ := s_dat q
  obtain ⟨x', hx', q2⟩ := s_ofO q'
  obtain ⟨hz, rfl⟩ := appD_list hx'
  obtain ⟨b, vs2, e3, e4, ra2⟩ := own_lst S2 hx
  rw [e1] at e3
  cases e3
  have hm := maxLen_le
  have hlen := ra2.length
  simp only [List.length_singleton] at hz
  exact ⟨a, vs2, v, rfl, rfl, e4, by omega, q2 σ _ p2 (grown S2 hx e1 e4 ra2 (.one dv)) ⟨Kp.upd ⟨_, e4, fun xs => by simp, fun b u => by simp⟩, fun _ _ => rfl⟩⟩
/-- a list or a tuple that is looked at, of itm -/
theorem sI {e : E} {f : List PyData → M Fl} (S : StOk X.K X.w HB pb σ H pa δ g) (p : postS X.K X.w ex W HB pb L σ H (bnd (itmM (ev r.b e δ)) f g) D) :
    TX X ex W HB pb r e σ H fun v H1 => ∃ ds g1 p1, StOk X.K X.w HB pb σ H1 p1 δ g1 ∧ Stp X.K X.w H pa H1 p1 g1 ∧ (DvOk r X.K X.w H1 p1 (.d (.list ds)) v ∨ DvOk r X.K X.w H1 p1 (.d (.tuple ds)) v) ∧ postS X.K X.w ex W HB pb L σ H1 (f ds g1) D := by
  unfold itmM at p
  rw [bnd_assoc] at p
  obtain ⟨δ1, g1, p1, S1, q⟩ := sE (r := r) S p
  refine ⟨δ1, g1, p1, S1, post_mono q ?_⟩
  rintro v H1 ⟨z, g2, p2, S2, st, dv, _, q⟩
  cases z with
  | pen => exact q.elim
  | d d =>
    cases d <;> try exact q.elim
    · exact ⟨_, g2, p2, S2, st, .inl dv, q⟩
    · exact ⟨_, g2, p2, S2, st, .inr dv, q⟩
theorem s_ext {i : Nat} {e : E} {n : Str} {y : Expr} {p apos cpos pos : Pos} (hN : X.N[i]? = some n) (hv : Vis X.env.scope n) (hd : (n == ("__debug__" : Str)) = false) (hcd : (n == ("__classdict__" : Str)) = false) (ha : PE X y (TX X ex W HB pb .read e)) (hy : nice y = true) (hl : (apos.endLine == cpos.line) = true) :
    PS X (.Expr (.Call (.Attribute (.Name n p) "extend" apos) [y] [] cpos) pos) (tS X.K X.w ex W HB pb L (.ext i e)) := by
  refine ps_mono (ps_expr (pe_bm F.plainAttrs_list F.slot_list_extend F.type_list_extend mt_ext (pe_var hN hv hd hcd) (pa_cons ha pa_nil (nice_star hy [] _)) rfl (few_one hy) hl (nice_star hy [] _) rfl)) fun D σ H h => ?_
  obtain ⟨δ, g, pa, S, q⟩ := h
  simp only [evS] at q
  obtain ⟨fr, q⟩ := s_grd q
  have fr := free_mem fr
  obtain ⟨xs, hx, q⟩ := s_ownL q
  obtain ⟨a, vs, e1, e2, ra⟩ := own_lst S hx
  obtain ⟨δ1, g1, p1, S1, q⟩ := sI (r := .read) S q
  refine ⟨.ref a, e1, .inl ⟨rfl, vs, SqL.of e2⟩, δ1, g1, p1, S1, post_mono q ?_⟩
  rintro v H1 ⟨ds, g2, p2, S2, st, dv, q⟩
  obtain ⟨x', hx', q2⟩ := s_ofO q
  obtain ⟨hz, rfl⟩ := appD_list hx'
  obtain ⟨b, vs2, e3, e4, ra2⟩ := own_lst S2 hx
  rw [e1] at e3
  cases e3
  have key : ∃ b us, v = .ref b ∧ (SqL X.K H1 b us ∨ SqT X.K H1 b us) ∧ RpA X.K X.w H1 ds us := by
    rcases dv with dv | dv
    · obtain ⟨b, us, e, sq, rr, _⟩ := rd_lst dv
      exact ⟨b, us, e, .inl sq, rr⟩
    · obtain ⟨b, us, e, sq, rr⟩ := rd_tup dv
      exact ⟨b, us, e, .inr sq, rr⟩
  obtain ⟨b, us, rfl, sq, rr⟩ := key
  have l1 := ra2.length
  have l2 := rr.length
  exact ⟨a, vs2, us, b, rfl, rfl, e4, by omega, sq, q2 σ _ p2 (grown S2 hx e1 e4 ra2 rr) ⟨Kp.upd ⟨_, e4, fun xs => by simp, fun b u => by simp⟩, fun _ _ => rfl⟩⟩
end
end Ld
/-! text LdU -/
set_option Elab.async false
set_option linter.all false
set_option maxRecDepth 100000
set_option maxHeartbeats 4000000
namespace Ld
open PySem PySem.Spec L2
open PyProof.Rows hiding St
variable [Fs]

section
variable {X : Cx} {ex : EX} {W : WX} {HB : Hp} {pb : Option Addr} {r : Md} {σ σ1 : St} {H H1 : Hp} {pa : Option Addr} {g : G} {δ : Env'} {D : Ends} {L : List Nat}
/-- what is walked, ahead of statements -/
theorem sItm {e : E} {f : List PyData → M Fl} (S : StOk X.K X.w HB pb σ H pa δ g) (p : postS X.K X.w ex W HB pb L σ H (bnd (itmM (ev r.b e δ)) f g) D) :
    postG X.K X.w ex W σ H pa (itmM (ev r.b e δ) g) fun ds g1 H1 p1 => StOk X.K X.w HB pb σ H1 p1 δ g1 ∧ Stp X.K X.w H pa H1 p1 g1 ∧ postS X.K X.w ex W HB pb L σ H1 (f ds g1) D := by
  unfold bnd at p
  cases q : itmM (ev r.b e δ) g with
  | no => rw [q] at p; exact p.elim
  | exc c fs g' =>
    rw [q] at p
    exact fun C d H' pa' st hx => p C d σ H' pa' δ (S.step st) hx
  | ok x g' =>
    rw [q] at p
    exact fun H' pa' st => ⟨S.step st, st, postS_step ⟨st.kp, fun _ _ => rfl⟩ p⟩
/-- behind the body of a turn -/
theorem turn_end {x : Res Fl} {f : PyData → Env' → M Fl} {r : List PyData} {D : Ends} {N : St → Hp → Prop} (p : postS X.K X.w ex W HB pb L σ H (match x with
    | .ok a g' => (match a with
      | .nx δ' => turns f r δ'
      | .ct δ' => turns f r δ'
      | .bk δ' => rt (.nx δ')
      | .rt x => rt (.rt x)) g'
    | .exc c fs g' => .exc c fs g'
    | .no => .no) D) (hN : ∀ σ' H' pa' δ' g', StOk X.K X.w HB pb σ' H' pa' δ' g' → Rl L σ H σ' H' → postS X.K X.w ex W HB pb L σ' H' (turns f r δ' g') D → N σ' H') : postS X.K X.w ex W HB pb L σ H x { D with nx := N, ct := N, bk := D.nx } := by
  cases x with
  | no => exact p
  | exc c fs g' => exact p
  | ok a g' =>
    cases a with
    | nx δ' => exact fun σ' H' pa' S' hr => hN σ' H' pa' δ' g' S' hr (postS_step hr p)
    | ct δ' => exact fun σ' H' pa' S' hr => hN σ' H' pa' δ' g' S' hr (postS_step hr p)
    | bk δ' => exact p
    | rt x => exact p
theorem turns_cons {f : PyData → Env' → M Fl} {d : PyData} {r : List PyData} : turns f (d :: r) δ g = (match f d δ g with
    | .ok a g' => (match a with
      | .nx δ' => turns f r δ'
      | .ct δ' => turns f r δ'
      | .bk δ' => rt (.nx δ')
      | .rt x => rt (.rt x)) g'
    | .exc c fs g' => .exc c fs g'
    | .no => .no) := by
  show bnd (f d δ) _ g = _
  unfold bnd
  cases f d δ g with
  | ok a g' => cases a <;> rfl
  | exc c fs g' => rfl
  | no => rfl
theorem n_loop (R : Rdy X) (po : PassesOwn (model X.prog X.w) X.A X.env X.xe) {t : Tg} {it : E} {b : Ss} {tg iter : Expr} {body : List Stmt} {pos : Pos} (hi : PI X tg iter (tI X.K X.w ex W HB pb .pure it)) (hg : PG X tg (gT X.K t)) (hb : PSs X body (tSs X.K X.w ex W HB pb L b)) (hn : nice iter = true) :
    PS X (.For tg iter body [] pos) (tS X.K X.w ex W HB pb L (.loop t it b)) := by
  refine ps_mono (ps_for po R.calm hi hg hb (nice_fold hn _)) fun D σ H h => ?_
  obtain ⟨δ, g, pa, S, p⟩ := h
  simp only [evS] at p
  obtain ⟨fr, p⟩ := s_grd p
  have fr := free_mem fr
  refine ⟨δ, g, pa, S, postG_mono (sItm (r := .pure) S p) fun ds g1 H1 p1 ⟨S1, st, p⟩ J Src wk kp src => ?_⟩
  obtain ⟨hz, wstop, wgo⟩ := wk
  refine ⟨fun i m σ H => m = ds.length - i ∧ i ≤ ds.length ∧ ∃ δ g p', StOk X.K X.w HB pb σ H p' δ g ∧ Src H p' ∧ postS X.K X.w ex W HB pb L σ H (turns (fun d δ => bnd (ofO (asgT t d δ)) fun δ' => evSs b L δ') (ds.drop i) δ g) D, ⟨ds.length, by simp, Nat.zero_le _, δ, g1, p1, S1, src, p⟩, ?_⟩
  rintro i m σ2 H2 ⟨rfl, hi2, δ2, g2, p2, S2, src2, p⟩
  by_cases hlt : i < ds.length
  · obtain ⟨d, hd⟩ : ∃ d, ds[i]? = some d := ⟨_, List.getElem?_eq_getElem hlt⟩
    have hdr : ds.drop i = d :: ds.drop (i + 1) := by
      obtain ⟨h1, e⟩ := List.getElem?_eq_some_iff.mp hd
      rw [List.drop_eq_getElem_cons h1, e]
    obtain ⟨jgo, jy⟩ := wgo i d H2 p2 hd src2
    refine .inr ⟨jgo, _, fun σ' H' h => ⟨ds.length - (i + 1), by omega, h⟩, fun v H3 hy => ?_⟩
    obtain ⟨hy, rp⟩ := jy v H3 hy
    have st4 := Stp.yld S2.pen hy
    have S3 := S2.step st4
    have src3 := kp.1 _ _ _ _ _ st4 src2
    rw [hdr, turns_cons] at p
    have p := postS_step ⟨st4.kp, fun _ _ => rfl⟩ p
    cases hA : asgT t d δ2 with
    | none =>
      have e : bnd (ofO (asgT t d δ2)) (fun δ' => evSs b L δ') g2 = .no := by rw [hA]; rfl
      rw [e] at p
      exact p.elim
    | some δ' =>
      have e : bnd (ofO (asgT t d δ2)) (fun δ' => evSs b L δ') g2 = evSs b L δ' g2 := by rw [hA]; rfl
      rw [e] at p
      refine asgT_ok hA S3 rp fun σ' S' _ ek => ⟨δ', g2, p2, S', ?_⟩
      have rl : Rl L σ2 H3 σ' H3 := ⟨Kp.refl _, fun j hj => ek j (fr j hj)⟩
      refine turn_end (postS_step rl p) fun σ5 H5 p5 δ5 g5 S5 r5 q => ⟨rfl, hlt, δ5, g5, p5, S5, kp.2 rfl _ _ _ _ r5.1 src3, q⟩
  · have e : i = ds.length := by omega
    subst e
    rw [List.drop_length] at p
    exact .inl ⟨wstop H2 p2 src2, p σ2 H2 p2 S2 Rl.refl⟩
/-! ### while -/
theorem whiles_succ {c : Env' → M Bool} {b : Env' → M Fl} {n : Nat} : whiles c b (n + 1) δ g = bnd (c δ) (fun k => match k with
    | false => rt (.nx δ)
    | true => bnd (b δ) fun fl => match fl with
      | .nx δ' => whiles c b n δ'
      | .ct δ' => whiles c b n δ'
      | .bk δ' => rt (.nx δ')
      | .rt x => rt (.rt x)) g := rfl
theorem n_while (po : PassesOwn (model X.prog X.w) X.A X.env X.xe) {n : Nat} {c : E} {b : Ss} {x : Expr} {body : List Stmt} {pos : Pos} (hc : PT X x (tT X.K X.w ex W HB pb c)) (hb : PSs X body (tSs X.K X.w ex W HB pb L b)) :
    PS X (.While x body [] pos) (tS X.K X.w ex W HB pb L (.while n c b)) := by
  refine ps_mono (ps_while po hc hb) fun D σ H h => ?_
  obtain ⟨δ, g, pa, S, p⟩ := h
  simp only [evS] at p
  refine ⟨fun m σ H => ∃ δ g pa, StOk X.K X.w HB pb σ H pa δ g ∧ postS X.K X.w ex W HB pb L σ H (whiles (fun δ => tst (ev true c δ)) (fun δ => evSs b L δ) m δ g) D, ⟨n, δ, g, pa, S, p⟩, ?_⟩
  rintro m σ2 H2 ⟨δ2, g2, p2, S2, p⟩
  cases m with
  | zero => exact p.elim
  | succ m =>
    rw [whiles_succ] at p
    obtain ⟨δ3, g3, p3, S3, q⟩ := sT S2 p
    refine ⟨δ3, g3, p3, S3, postG_mono q fun k _ H4 _ ⟨g4, p4, S4, st, p⟩ => ?_⟩
    cases k with
    | false => exact p σ2 H4 p4 S4 Rl.refl
    | true =>
      rw [if_pos rfl]
      refine ⟨_, fun σ' H' h => ⟨m, Nat.lt_succ_self m, h⟩, δ2, g4, p4, S4, ?_⟩
      dsimp only [bnd] at p
      cases q2 : evSs b L δ2 g4 with
      | no => rw [q2] at p; exact p.elim
      | exc c fs g' => rw [q2] at p; exact p
      | ok a g' =>
        rw [q2] at p
        cases a with
        | nx δ' => exact fun σ' H' pa' S' hr => ⟨δ', g', pa', S', postS_step hr p⟩
        | ct δ' => exact fun σ' H' pa' S' hr => ⟨δ', g', pa', S', postS_step hr p⟩
        | bk δ' => exact p
        | rt x => exact p
end
end Ld
/-! text LdV -/
set_option Elab.async false
set_option linter.all false
set_option maxRecDepth 100000
set_option maxHeartbeats 4000000
namespace Ld
open PySem PySem.Spec L2
open PyProof.Rows hiding St
variable [Fs]

section
variable {X : Cx} {ex : EX} {W : WX} {HB : Hp} {pb : Option Addr} {r : Md} {σ σ1 : St} {H H1 : Hp} {pa : Option Addr} {g : G} {δ : Env'} {D : Ends} {L : List Nat} {Q : VK}
/-- the pen in a slot -/
theorem StOk.penAt {K : PySem.W.Frag} {w : World} (S : StOk K w HB pb σ H pa δ g) {i : Nat} (hi : δ[i]? = some (some .pen)) : ∃ a, σ[i]? = some (some (.ref a)) ∧ pa = some a := by
  obtain ⟨v, h1, a, h2, rfl⟩ := S.slot i _ hi
  exact ⟨a, h1, h2⟩
theorem slot_pen {α : Type} {i : Nat} {x : DV} {g' : G} (h : slotV false δ i g = .ok x g') : g' = g ∧ ((∃ d, x = .d d ∧ δ[i]? = some (some (.val d))) ∨ (x = .pen ∧ δ[i]? = some (some .pen))) := by
  unfold slotV at h
  cases q : δ[i]? with
  | none => rw [q] at h; cases h
  | some o =>
    rw [q] at h
    cases o with
    | none => cases h
    | some s =>
      cases s with
      | val d =>
        have h : Res.ok (DV.d d) g = Res.ok x g' := h
        cases h
        exact ⟨rfl, .inl ⟨d, rfl, rfl⟩⟩
      | own d => cases h
      | pen =>
        have h : Res.ok DV.pen g = Res.ok x g' := h
        cases h
        exact ⟨rfl, .inr ⟨rfl, rfl⟩⟩
theorem slot_exc {i : Nat} {c : Nat} {fs : List (Str × PyData)} {g' : G} {b : Bool} : slotV b δ i g ≠ .exc c fs g' := by
  intro h
  unfold slotV at h
  cases q : δ[i]? with
  | none => rw [q] at h; cases h
  | some o =>
    rw [q] at h
    cases o with
    | none => cases h
    | some s => cases s <;> first | cases h | (cases b <;> cases h)
/-- pen[k] -/
theorem n_pget (hr : r ≠ .own) {i k : Nat} {n : Str} {p q pos : Pos} {j : Nat} (hN : X.N[i]? = some n) (hv : Vis X.env.scope n) (hd : (n == ("__debug__" : Str)) = false) (hcd : (n == ("__classdict__" : Str)) = false) :
    PE X (.Subscript (.Name n p) (.Constant (.int k) j q) pos) (TX X ex W HB pb r (.pget i k)) := by
  refine pe_mono (pe_ix ix_list (pe_var hN hv hd hcd) pe_int fun _ _ => rfl) fun σ H Q h => ?_
  obtain ⟨δ, g, pa, S, p⟩ := h
  simp only [ev] at p
  unfold bnd at p
  cases q : slotV false δ i g with
  | no => rw [q] at p; exact p.elim
  | exc c fs g' => exact absurd q slot_exc
  | ok x g' =>
    rw [q] at p
    obtain ⟨rfl, ⟨d, rfl, _⟩ | ⟨rfl, hp⟩⟩ := slot_pen (α := Unit) q
    · exact p.elim
    · obtain ⟨a, hs, ea⟩ := S.penAt hp
      have pen := S.pen
      cases g' with
      | none => exact p.elim
      | some u =>
        obtain ⟨b, c, eb, hb, rc⟩ := pen
        rw [ea] at eb
        cases eb
        refine ⟨.ref a, hs, a, [.ref c, .int u.seat, .int u.left], k, ?_⟩
        match k, p with
        | 0, p => exact ⟨.ref c, rfl, rfl, SqL.of hb, rfl, ok_here (d := .list (u.cells.map .int)) p hr S.pen rc⟩
        | 1, p => exact ⟨.int u.seat, rfl, rfl, SqL.of hb, rfl, ok_here (d := .int u.seat) p hr S.pen (.int _)⟩
        | 2, p => exact ⟨.int u.left, rfl, rfl, SqL.of hb, rfl, ok_here (d := .int u.left) p hr S.pen (.int _)⟩
        | n + 3, p => exact p.elim
/-- the pen is written -/
theorem StOk.penSet {K : PySem.W.Frag} {w : World} {u u' : Pen} {a c : Addr} (S : StOk K w HB pb σ H pa δ (some u)) (ea : pa = some a) (hb : H a = some (.lst [.ref c, .int u.seat, .int u.left])) (rc : Rp K w H (.list (u.cells.map .int)) (.ref c)) (e : u'.cells = u.cells) :
    StOk K w HB pb σ (upd H a (.lst [.ref c, .int u'.seat, .int u'.left])) pa δ (some u') := by
  have f : Fill H a := ⟨_, hb, fun xs => by simp, fun b u => by simp⟩
  have k := Kp.upd (o := .lst [.ref c, .int u'.seat, .int u'.left]) f
  exact {
    len := S.len
    slot := fun i s h => by
      obtain ⟨v, h1, h2⟩ := S.slot i s h
      refine ⟨v, h1, ?_⟩
      cases s with
      | val d => exact Rp.kp k h2
      | own d => exact ⟨h2.1.other f fun e => (h2.2 a e).1 ea, h2.2⟩
      | pen => exact h2
    apart := S.apart
    base := {
      gr := fun b o h n => by
        rw [upd_ne]
        · exact S.base.gr b o h n
        · rintro rfl
          rcases S.base.same with e2 | ⟨_, e2⟩
          · exact n (e2.trans ea)
          · rw [e2 b ea] at h; cases h
      kp := S.base.kp.trans k
      pen := ⟨a, c, ea, upd_same, by rw [e]; exact rc.kp k⟩
      same := S.base.same } }
theorem s_slot {i : Nat} {f : DV → M Fl} (p : postS X.K X.w ex W HB pb L σ H (bnd (slotV false δ i) f g) D) : (∃ d, δ[i]? = some (some (.val d)) ∧ postS X.K X.w ex W HB pb L σ H (f (.d d) g) D) ∨ (δ[i]? = some (some .pen) ∧ postS X.K X.w ex W HB pb L σ H (f .pen g) D) := by
  unfold bnd at p
  cases q : slotV false δ i g with
  | no => rw [q] at p; exact p.elim
  | exc c fs g' => exact absurd q slot_exc
  | ok x g' =>
    rw [q] at p
    obtain ⟨rfl, ⟨d, rfl, h⟩ | ⟨rfl, h⟩⟩ := slot_pen (α := Unit) q
    · exact .inl ⟨d, h, p⟩
    · exact .inr ⟨h, p⟩
/-- pen[1] = e, pen[2] = e -/
theorem s_pen (two : Bool) {i : Nat} {e : E} {n : Str} {x : Expr} {j : Nat} {p q pos' pos : Pos} (hN : X.N[i]? = some n) (hv : Vis X.env.scope n) (hd : (n == ("__debug__" : Str)) = false) (hcd : (n == ("__classdict__" : Str)) = false) (ha : PE X x (TX X ex W HB pb .pure e)) (hx : noComp x = true) :
    PS X (.Assign [.Subscript (.Name n p) (.Constant (.int (if two then 2 else 1)) j q) pos'] x pos) (tS X.K X.w ex W HB pb L (if two then .pen2 i e else .pen1 i e)) := by
  refine ps_mono (ps_asg ha (pg_sub (pe_var hN hv hd hcd) pe_int L2.set_list) (noComp_sole hx _ _ _) rfl) fun D σ H h => ?_
  obtain ⟨δ, g, pa, S, p⟩ := h
  have key : ∃ f : Pen → Int → Pen, (∀ u n, (f u n).cells = u.cells) ∧ (∀ (u : Pen) (n : Int) c, [V.ref c, .int (f u n).seat, .int (f u n).left] = [V.ref c, .int u.seat, .int u.left].set (if two then 2 else 1) (.int n)) ∧ postS X.K X.w ex W HB pb L σ H (penS (slotV false δ i) (ev false e δ) f δ g) D := by
    cases two with
    | false => exact ⟨fun p n => { p with seat := n }, fun _ _ => rfl, fun _ _ _ => rfl, p⟩
    | true => exact ⟨fun p n => { p with left := n }, fun _ _ => rfl, fun _ _ _ => rfl, p⟩
  obtain ⟨f, f1, f2, p⟩ := key
  rcases s_slot p with ⟨d, _, p⟩ | ⟨hp, p⟩
  · exact p.elim
  · obtain ⟨δ1, g1, p1, S1, q⟩ := sE (r := .pure) S p
    refine ⟨δ1, g1, p1, S1, post_mono q ?_⟩
    rintro v H1 ⟨z, g2, p2, S2, st, dv, _, p⟩
    obtain ⟨m, rfl, p'⟩ := s_int p
    have ev : v = .int m := rp_int dv
    subst ev
    obtain ⟨a, hs, ea⟩ := S2.penAt hp
    have pen := S2.pen
    cases g2 with
    | none => exact p'.elim
    | some u =>
      obtain ⟨b, c, eb, hb, rc⟩ := pen
      rw [ea] at eb
      cases eb
      refine ⟨.ref a, hs, a, [.ref c, .int u.seat, .int u.left], (if two then 2 else 1 : Int), (if two then 2 else 1), rfl, ?_, hb, ?_, ?_⟩
      · cases two <;> rfl
      · cases two <;> rfl
      · rw [← f2 u m c]
        exact p' σ _ p2 (S2.penSet ea hb rc (f1 u m)) ⟨Kp.upd ⟨_, hb, fun xs => by simp, fun b u => by simp⟩, fun _ _ => rfl⟩
end
end Ld
/-! text LdW -/
set_option Elab.async false
set_option linter.all false
set_option maxRecDepth 100000
set_option maxHeartbeats 4000000
namespace Ld
open PySem PySem.Spec L2
open PyProof.Rows hiding St
variable [Fs]

section
variable {X : Cx} {ex : EX} {W : WX} {HB : Hp} {pb : Option Addr} {r : Md} {σ σ1 : St} {H H1 : Hp} {pa : Option Addr} {g : G} {δ : Env'} {D : Ends} {L : List Nat} {Q : VK}
theorem ints_map : ∀ {ds : List PyData} {ns : List Int}, intsD ds = some ns → ds = ns.map .int
  | [], _, h => by cases h; rfl
  | d :: r, ns, h => by
    cases d <;> try (simp [intsD] at h; done)
    rename_i b
    unfold intsD at h
    cases q : intsD r with
    | none => rw [q] at h; cases h
    | some bs =>
      rw [q] at h
      cases h
      rw [ints_map q]
      rfl
/-- return [e, 0, 0] -/
theorem n_mkpen {e : E} {x : Expr} {j k : Nat} {p1 p2 p3 pos : Pos} (ha : PE X x (TX X ex W HB pb .pure e)) (hx : nice x = true) :
    PS X (.Return (some (.List [x, .Constant (.int 0) j p1, .Constant (.int 0) k p2] p3)) pos) (tS X.K X.w ex W HB pb L (.mkpen e)) := by
  refine ps_mono (ps_ret (pe_lst (pa_cons ha (pa_cons pe_int (pa_cons pe_int pa_nil)) (nice_star hx _ _)))) fun D σ H h => ?_
  obtain ⟨δ, g, pa, S, p⟩ := h
  simp only [evS] at p
  obtain ⟨δ1, g1, q1, S1, q⟩ := sE (r := .pure) S p
  refine ⟨δ1, g1, q1, S1, post_mono q ?_⟩
  rintro v H1 ⟨z, g2, q2, S2, st, dv, fre, p⟩
  obtain ⟨d, ed, p'⟩ := s_dat p
  cases d <;> try exact p'.elim
  case list ds =>
    subst ed
    obtain ⟨ns, hn, p2⟩ := s_ofO p'
    refine ⟨by show 3 ≤ sizeLine; decide, fun a na => ?_⟩
    cases g2 with
    | some u => exact p2.elim
    | none =>
      obtain ⟨b, vs, rfl, _⟩ := rd_lst (.inl dv : DvOk .read X.K X.w H1 q2 (.d (.list ds)) v)
      have e1 : q2 = none := S2.pen
      have e2 : pb = none := by
        rcases S2.base.same with e | ⟨e, _⟩
        · rw [e, e1]
        · exact e
      have k := Kp.new (o := .lst [.ref b, .int 0, .int 0]) na
      have hnb : HB a = none := S2.base.back na
      refine p2 (.ref a) _ (some a) ?_ ⟨a, rfl, rfl⟩
      exact {
        gr := fun c o hc n => by
          rw [upd_ne (fun z => by rw [z, hnb] at hc; cases hc)]
          exact S2.base.gr c o hc n
        kp := S2.base.kp.trans k
        pen := ⟨a, b, rfl, upd_same, by rw [← ints_map hn]; exact Rp.kp k dv⟩
        same := .inr ⟨e2, fun c hc => by cases hc; exact hnb⟩ }
/-- name += e, ints -/
theorem n_aug (R : Rdy X) {i : Nat} {e : E} {n : Str} {x : Expr} {pos' pos : Pos} (hi : X.N[i]? = some n) (hx : Loc X.env.scope n) (hf : X.fn n = true ∨ X.env.scope.names.lookup n = some .local) (ha : PE X x (TX X ex W HB pb .pure e)) :
    PS X (.AugAssign (.Name n pos') .Add x pos) (tS X.K X.w ex W HB pb L (.aug i e)) := by
  refine ps_mono (ps_aug R.nd hi hx ha ip_add hf) fun D σ H h => ?_
  obtain ⟨δ, g, pa, S, p⟩ := h
  simp only [evS] at p
  obtain ⟨fr, p⟩ := s_grd p
  have fr := free_mem fr
  have hl : ∀ {d : Slot}, δ[i]? = some (some d) → i < δ.length := fun h => (List.getElem?_eq_some_iff.mp h).1
  rcases s_slot p with ⟨d, hd, p⟩ | ⟨hp, p⟩
  · obtain ⟨v, hv, rp⟩ := S.slot i _ hd
    refine ⟨v, hv, ?_⟩
    obtain ⟨δ1, g1, p1, S1, q⟩ := sE (r := .pure) S p
    refine ⟨δ1, g1, p1, S1, post_mono q ?_⟩
    rintro u H1 ⟨z, g2, p2, S2, st, dv, _, p⟩
    obtain ⟨m, e1, p'⟩ := s_int p
    obtain ⟨k, e2, p2'⟩ := s_int p'
    have e1 : d = .int m := by cases e1; rfl
    subst e1 e2
    have e3 : v = .int m := rp_int (H := H) (pa := pa) (K := X.K) (w := X.w) rp
    have e4 : u = .int k := rp_int dv
    subst e3 e4
    exact ⟨m, k, rfl, rfl, p2' _ H1 p2 (S2.setV (.int _) (hl hd)) ⟨Kp.refl _, fun j hj => List.getElem?_set_ne fun e => fr j hj (by simp [e])⟩⟩
  · obtain ⟨a, hv, _⟩ := S.penAt hp
    refine ⟨_, hv, ?_⟩
    obtain ⟨δ1, g1, p1, S1, q⟩ := sE (r := .pure) S p
    refine ⟨δ1, g1, p1, S1, post_mono q ?_⟩
    rintro u H1 ⟨z, g2, p2, S2, st, dv, _, p⟩
    obtain ⟨m, e1, p'⟩ := s_int p
    cases e1
end
end Ld
/-! text LsJ -/
set_option Elab.async false
set_option linter.all false
set_option maxRecDepth 100000
set_option maxHeartbeats 4000000
namespace Ld
open PySem PySem.Spec L2
open PyProof.Rows hiding St
variable [Fs]

section
variable {X : Cx} {ex : EX} {W : WX} {HB : Hp} {pb : Option Addr} {L : List Nat}
/-- d[k] = v, one's own dict -/
def rPutD (K : PySem.W.Frag) (w : World) : TSet := fun o i v H Q => ∃ a kvs k d, o = .ref a ∧ Ow K w H (.dict kvs) (.ref a) ∧ Rp K w H k i ∧ Rp K w H d v ∧ kOk kvs k = true ∧ kvs.length < maxLen ∧
  ∀ ob, (∀ H', H' a = some ob → Kp H H' → Ow K w H' (.dict (dput kvs k d)) (.ref a)) → Q (upd H a ob)
def rPut (K : PySem.W.Frag) (w : World) : TSet := fun o i v H Q => rSetL o i v H Q ∨ rPutD K w o i v H Q
theorem set_own (R : Rdy X) : PSet X (rPut X.K X.w) := by
  intro pins s σ H o i v ov iv u Q I ro ri rv h
  rcases h with h | ⟨a, kvs, k, d, rfl, ow, rk, rd, hk, hz, q⟩
  · exact L2.set_list pins s σ H o i v ov iv u Q I ro ri rv h
  · cases ro
    have hu := R.hu
    have mu : Mut (H a) := by
      obtain ⟨b, e, ⟨ns, hr, _⟩ | ⟨ls, hr, _⟩⟩ := id ow <;> cases e <;> rw [hr] <;> trivial
    exact dict_item I (by omega) ow hk hz rk rd ri rv fun ob h' tk sb he ok ow' => ⟨upd H a ob, d_write I mu sb he (ok _), q ob ow'⟩
theorem set_rp {K : PySem.W.Frag} {w : World} {H : Hp} : ∀ {ds : List PyData} {vs : List V} {d : PyData} {v : V} (j : Nat), RpA K w H ds vs → Rp K w H d v → RpA K w H (ds.set j d) (vs.set j v)
  | _, _, _, _, _, .nil, _ => .nil
  | _, _, _, _, 0, .cons _ r, s => .cons s r
  | _, _, _, _, j + 1, .cons a r, s => .cons a (set_rp j r s)
theorem s_put (R : Rdy X) {i : Nat} {k e : E} {n : Str} {y x : Expr} {p pos' pos : Pos} (hN : X.N[i]? = some n) (hv : Vis X.env.scope n) (hd : (n == ("__debug__" : Str)) = false) (hcd : (n == ("__classdict__" : Str)) = false)
    (hk : PE X y (TX X ex W HB pb .pure k)) (ha : PE X x (TX X ex W HB pb .pure e)) (hx : noComp x = true) (asn : ∀ v, assign (.Subscript (.Name n p) y pos') X.env v = (do
      let ov ← holding [v] (eval (.Name n p) X.env)
      let iv ← holding [v, ov] (eval y X.env)
      standAt pos'
      holding [v, ov, iv] (setItem ov iv v)
      release [v, ov, iv] []) := by intro _; rfl) :
    PS X (.Assign [.Subscript (.Name n p) y pos'] x pos) (tS X.K X.w ex W HB pb L (.put i k e)) := by
  refine ps_mono (ps_asg ha (pg_sub (pe_var hN hv hd hcd) hk (set_own R) asn) (noComp_sole hx _ _ _) rfl) fun D σ H h => ?_
  obtain ⟨δ, g, pa, S, q⟩ := h
  simp only [evS] at q
  obtain ⟨fr, q⟩ := s_grd q
  have fr := free_mem fr
  obtain ⟨δ1, g1, p1, S1, q⟩ := sE (r := .pure) S q
  refine ⟨δ1, g1, p1, S1, post_mono q ?_⟩
  rintro v H1 ⟨z, g2, p2, S2, st, dv, _, q⟩
  obtain ⟨x0, hx0, q⟩ := s_own q
  obtain ⟨a, e1, ow, np, nb⟩ := S2.own hx0
  obtain ⟨δ3, g3, p3, S3, q⟩ := sE (r := .pure) S2 q
  refine ⟨.ref a, e1, δ3, g3, p3, S3, post_mono q ?_⟩
  rintro w1 H2 ⟨z2, g4, p4, S4, st2, dk, _, q⟩
  obtain ⟨d, rfl, qa⟩ := s_dat q
  obtain ⟨kd', rfl, qb⟩ := s_dat qa
  obtain ⟨x', hx', qc⟩ := s_ofO qb
  have dv2 : Rp X.K X.w H2 d v := Rp.kp st2.kp dv
  obtain ⟨a2, e2, ow2, np2, nb2⟩ := S4.own hx0
  rw [e1] at e2
  cases e2
  have fin : ∀ (ob : HO) (f : Fill H2 a), Ow X.K X.w (upd H2 a ob) x' (.ref a) → D.nx σ (upd H2 a ob) := fun ob f ow' =>
    qc σ _ p4 (S4.write (s := .own x') hx0 e1 f np2 nb2 ⟨ow', fun b e => by cases e; exact ⟨np2, nb2⟩⟩ (by simp)) ⟨Kp.upd f, fun _ _ => rfl⟩
  cases x0 with
  | dict kvs =>
    simp only [putD] at hx'
    split at hx'
    · rename_i hc
      rw [Bool.and_eq_true, decide_eq_true_eq] at hc
      cases hx'
      have f : Fill H2 a := by
        obtain ⟨b, e, ⟨ns, hr, _⟩ | ⟨ls, hr, _⟩⟩ := id ow2 <;> cases e <;> exact ⟨_, hr, fun xs => by simp, fun b u => by simp⟩
      exact .inr ⟨a, kvs, kd', d, rfl, ow2, dk, dv2, hc.1, hc.2, fun ob ow' => fin ob f (ow' _ upd_same (Kp.upd f))⟩
    · cases hx'
  | list xs =>
    cases kd' with
    | int j =>
      simp only [putD] at hx'
      split at hx'
      · rename_i m hm
        cases hx'
        obtain ⟨b, vs, e, hH, ra⟩ := id ow2
        cases e
        have f : Fill H2 a := ⟨_, hH, fun xs => by simp, fun b u => by simp⟩
        have ei : w1 = .int j := rp_int dk
        subst ei
        exact .inl ⟨a, vs, j, m, rfl, rfl, hH, by rw [← ra.length]; exact hm, fin _ f ⟨a, _, rfl, upd_same, (set_rp m ra dv2).kp (Kp.upd f)⟩⟩
      · cases hx'
    | _ => simp [putD] at hx'
  | _ => simp [putD] at hx'
end
end Ld
/-! text LsK -/
set_option Elab.async false
set_option linter.all false
set_option maxRecDepth 100000
set_option maxHeartbeats 4000000
namespace Ld
open PySem PySem.Spec L2
open PyProof.Rows hiding St
variable [Fs]

/-! ### the dict comprehension, keys of either kind -/
section
variable {X : Cx}
/-- D the new dict; T by the turn and a measure -/
def tDk (K : PySem.W.Frag) (w : World) (wi : TI) (g : TG) (tt : TT) (tk tv : TE) (vs : List Nat) : TE := fun σ H Q => wi σ H fun J H1 => ∀ D, H1 D = none → ∃ T : Nat → Nat → Hp → Prop, (∃ m, T 0 m (upd H1 D (.dK []))) ∧ ∀ i m H, T i m H →
  (J.stop i H ∧ Q (.ref D) H) ∨ (J.go i H ∧ ∃ Nx : Hp → Prop, (∀ H', Nx H' → ∃ m', m' < m ∧ T (i + 1) m' H') ∧ ∀ x H', J.yld i H x H' → g x (wipe σ vs) H' fun σ2 H2 => wipe σ2 vs = wipe σ vs ∧ tt σ2 H2 fun b H3 =>
    if b = true then tk σ2 H3 fun y H4 => tv σ2 H4 fun z H5 => rPutD K w (.ref D) y z H5 Nx else Nx H3)
theorem dk_store (R : X.A.units + 100 < cLine) {pins : List (Addr × Obj)} {σ : St} {H : Hp} {s : Shared} {D : Addr} {y z : V} {u r : Value} {Nx : Hp → Prop} {Q : Unit → Shared → Prop} {E : Value → Shared → Prop} (I : Inv X pins σ H s) (ry : RelV y u) (rz : RelV z r) (p : rPutD X.K X.w (.ref D) y z H Nx)
    (q : ∀ s' H', Inv X pins σ H' s' → Nx H' → Q () s') : wpAny (model X.prog X.w) X.A (dictSet D u r) Q E s := by
  obtain ⟨a, kvs, k, d, e, ow, rk, rd, hk, hz, n⟩ := p
  cases e
  have mu : Mut (H D) := by
    obtain ⟨b, e, ⟨ns, hr, _⟩ | ⟨ls, hr, _⟩⟩ := id ow <;> cases e <;> rw [hr] <;> trivial
  exact dict_put I R ow hk hz rk rd ry rz fun ob h' tk sb he ok ow' => q _ _ (d_write I mu sb he (ok _)) (n ob ow')
theorem pe_dk (hu : X.A.units + 100 < cLine) {kx vx tg iter : Expr} {ifs : List Expr} {scope : Scope} {own : List (Str × Nat)} {pos : Pos} {wi : TI} {g : TG} {tt : TT} {tk tv : TE} (hc : X.calm = true) (hN : X.N.Nodup) (hi : PI X tg iter wi) (ok : BlkOk X.N X.env.scope scope own)
    (inn : ∀ (s : Shared) (H : Hp) (C : Addr) (cl : List (Str × Addr)) (fp : List Addr), PG (X.blk s H scope (compEnvC scope cl C X.env) fp) tg g ∧ PTs (X.blk s H scope (compEnvC scope cl C X.env) fp) ifs tt ∧ PE (X.blk s H scope (compEnvC scope cl C X.env) fp) kx tk ∧ PE (X.blk s H scope (compEnvC scope cl C X.env) fp) vx tv)
    (hs : ∀ x, foldedSetIterable iter X.env x = pure x := by intro _; rfl) : PE X (.DictComp kx vx [⟨tg, iter, ifs, 0⟩] scope pos) (tDk X.K X.w wi g tt tk tv (own.map (·.2))) := by
  refine ⟨fun pins s σ H Q I h => ?_⟩
  rw [arm_eval_DictComp]
  have bound : ∀ y ∈ scope.names, y.2 = .free → ∃ c, X.env.cells.lookup y.1 = some c := fun y hy e => (ok.free y hy e).elim (fun k => I.ok.has _ (.inl k)) fun k => I.ok.has _ (.inr k)
  refine wpAny_comprehension_free rfl hs (closure_ok bound) ok.kind (fun y hy e => by rw [ok.uniq y hy, e]) (thn (hi.run pins s σ H _ I h) fun xv s1 hx => thn hx fun itv s2 h2 => ?_)
  obtain ⟨it, fp, tn, J, H2, rfl, I2, T, st2, f2, q⟩ := h2
  refine wpAny_newObj_type (newEnv_comp ?_)
  -- D: the new dict
  obtain ⟨D, hD⟩ : ∃ D, D = s2.heap.objs.size := ⟨_, rfl⟩
  rw [← hD]
  have nD : H2 D = none := I2.hok.fresh (Nat.le_of_eq hD.symm)
  obtain ⟨Tn, ⟨m0, t0⟩, turn⟩ := q D nD
  obtain ⟨s3, hs3⟩ : ∃ s3 : Shared, s3 = { s2 with heap := s2.heap.push { cls := .type "dict", data := .dict #[] } } := ⟨_, rfl⟩
  have e3 : s3.heap = s2.heap.push { cls := .type "dict", data := .dict #[] } := by rw [hs3]
  have up : ∀ b o, s2.heap.get? b = some o → s3.heap.get? b = some o := fun b o e => by rw [e3]; exact Heap.get?_push_of_some _ e
  obtain ⟨H3, hH3⟩ : ∃ H3, H3 = upd H2 D (.dK []) := ⟨_, rfl⟩
  have I3 : Inv X pins σ H3 s3 := by
    rw [hs3, hH3]
    refine I2.laid (t' := s2.toks) (fun b o e => Heap.get?_push_of_some _ e) (Nat.le_of_eq hD.symm) ?_
    rw [hD]
    exact dk_empty s2.heap I2.big
  have lt : ∀ b ∈ fp, b < D := fun b hb => by
    obtain ⟨o, e, _⟩ := T.obj _ _ st2 b hb
    rw [hD]
    exact Heap.lt_size e
  have f3 : ∀ b ∈ fp, FpOk X pins H3 b ∧ b < s3.heap.objs.size := fun b hb => by
    refine ⟨⟨?_, (f2 b hb).2⟩, by rw [e3, Heap.size_push, ← hD]; exact Nat.lt_succ_of_lt (lt b hb)⟩
    rw [hH3, upd_ne (Nat.ne_of_lt (lt b hb))]
    exact (f2 b hb).1
  rw [← hH3] at t0
  have I4 := block_start I3 ok hN f3
  obtain ⟨pg, pt, pk, pv⟩ := inn s3 H3 s3.heap.objs.size (cellsFrom (s3.heap.objs.size + 1) scope.names (cloFrom X.env.cells scope.names [])) fp
  rw [← hs3]
  obtain ⟨ce, hce⟩ : ∃ ce, ce = compEnvC scope (cellsFrom (s3.heap.objs.size + 1) scope.names (cloFrom X.env.cells scope.names [])) s3.heap.objs.size X.env := ⟨_, rfl⟩
  have cL : ce.locals = s3.heap.objs.size := by rw [hce]; rfl
  rw [← hce] at I4 pg pt pk pv
  obtain ⟨s4, hs4⟩ : ∃ s4 : Shared, s4 = { s3 with heap := pushCells (s3.heap.push { cls := .type "dict", data := .dict #[] }) scope.names } := ⟨_, rfl⟩
  rw [← hs4] at I4
  have st4 : tn 0 s4.heap := T.keep _ _ _ st2 fun b _ o e => by rw [hs4]; exact pushCells_keeps _ _ _ _ (Heap.get?_push_of_some _ (up b o e))
  have n3 : ∀ b ∈ fp, H3 b = none := fun b hb => (f3 b hb).1.1
  -- what is walked is free in the block
  have fre : ∀ {σ' : St} {H' : Hp} {s' : Shared}, Inv (X.blk s3 H3 scope ce fp) [] σ' H' s' → (∀ b ∈ fp, H' b = none) → ∀ b ∈ fp, FpOk (X.blk s3 H3 scope ce fp) [] H' b := fun I' n b hb =>
    ⟨n b hb, (I'.ok.exf b hb).1, I'.ok.exfs b hb, .inl hb, fun x c e => (I'.ok.exf b hb).2 x c e, fun p hp => by simp [Cx.blk] at hp⟩
  have loop : codeAny (model X.prog X.w) X.A (.compLoop (.DictComp kx vx [⟨tg, iter, ifs, 0⟩] scope pos) 0 (.ref it) (.ref D) ce) (compPost (model X.prog X.w) X.A X.xe none (fun u s' => EP X pins σ Q u s') (.ref D) s3.heap.objs.size) s4 := by
    refine compLoop_anyD (fun n s' => ∃ i H', Inv (X.blk s3 H3 scope ce fp) [] (wipe σ (own.map (·.2))) H' s' ∧ tn i s'.heap ∧ (∀ b ∈ fp, H' b = none) ∧ Tn i n H') ?_ m0 ⟨0, H3, I4, st4, n3, t0⟩
    rintro n s5 ⟨i, H5, I5, st5, n5, t5⟩
    rcases turn i n H5 t5 with ⟨stop, fin⟩ | ⟨go, Nx, less, step⟩
    · refine thnF (T.done (X.blk s3 H3 scope ce fp) rfl rfl rfl hc i [] s5 _ H5 (fun _ _ => False) I5 (fre I5 n5) st5 stop) fun r s6 ⟨hr, I6⟩ => ?_
      subst hr
      have I7 : Inv X pins σ H5 s6 := I3.call' (ch := fp) I6.os I6.base I6.hok I6.bare fun b hb => ⟨(f3 b hb).1.2.2.2.1, (f3 b hb).1.2.1, (f3 b hb).1.2.2.2.2.1, (f3 b hb).1.2.2.2.2.2⟩
      have nC : H5 s3.heap.objs.size = none := by rw [← cL]; exact I6.free
      obtain ⟨m, hn, _⟩ := I6.loc
      have hn : s6.heap.Ns ce.locals m := hn
      rw [cL] at hn
      obtain ⟨g0, g1, g2, g3, g4, g5⟩ := I3.fpOk (Nat.le_refl _) nC
      exact ⟨m, hn, fun h'' sb => ⟨.ref D, H5, I7.turned (t' := s6.toks) (fun b o hb e => (sb.2 b hb).trans e) g0 g1 g3 g4 g5, rfl, fin⟩⟩
    · refine thnF (T.item (X.blk s3 H3 scope ce fp) rfl rfl rfl hc i [] s5 _ H5 (fun _ _ => False) I5 (fre I5 n5) st5 go) fun r s6 ⟨u, hr, h6⟩ => ?_
      subst hr
      refine thnF h6 fun _ s7 ⟨x, H7, I7, r7, y7, st7, n7⟩ => ?_
      have I7' := I7.pinned (fre I7 n7) (T.obj _ _ st7)
      refine thnF (pg.run _ s7 _ H7 x u _ I7' r7 (step x H7 y7)) fun _ s8 ⟨σ8, H8, I8, w8, q8⟩ => ?_
      refine thnF (pt.run _ s8 σ8 H8 _ I8 q8) fun b s9 ⟨H9, I9, q9⟩ => ?_
      have back : ∀ (s' : Shared) (H' : Hp), Inv (X.blk s3 H3 scope ce fp) ([] ++ pinsAt fp s7.heap) σ8 H' s' → Nx H' → ∃ m, m < n ∧ ∃ i H', Inv (X.blk s3 H3 scope ce fp) [] (wipe σ (own.map (·.2))) H' s' ∧ tn i s'.heap ∧ (∀ b ∈ fp, H' b = none) ∧ Tn i m H' := fun s' H' I' nx => by
        obtain ⟨m', hm, t'⟩ := less H' nx
        have pin : ∀ b ∈ fp, ∀ o, s7.heap.get? b = some o → s'.heap.get? b = some o ∧ H' b = none := fun b hb o e => by
          have z := I'.pin (b, o) (List.mem_append_right _ (List.mem_append_right _ (mem_pinsAt hb e)))
          exact ⟨z.1, z.2.1⟩
        refine ⟨m', hm, i + 1, H', (I'.unpinned (pins := [])).weak (by rw [← w8, wipe_length]) (fun j v e => ?_), T.keep _ _ _ st7 fun b hb o e => (pin b hb o e).1, fun b hb => ?_, t'⟩
        · rw [← w8] at e
          exact (wipe_some e).1
        · obtain ⟨o, e, _⟩ := T.obj _ _ st7 b hb
          exact (pin b hb o e).2
      cases b with
      | false =>
        simp only [Bool.false_eq_true, if_false] at q9 ⊢
        exact back s9 H9 I9 q9
      | true =>
        simp only [if_true] at q9 ⊢
        refine thnF (pk.run _ s9 σ8 H9 _ I9 q9) fun z s10 ⟨yk, H10, I10, r10, q10⟩ => ?_
        refine thnF (pv.run _ s10 σ8 H10 _ I10 q10) fun z2 s11 ⟨yv, H11, I11, r11, put⟩ => ?_
        exact dk_store (X := X.blk s3 H3 scope ce fp) hu I11 r10 r11 put fun s12 H12 I12 nx => back s12 H12 I12 nx
  have all := codeAny_compStart_dict loop (T.self X.A 0 _ _ _ st4 loop)
  rw [hs4, hce] at all
  exact all
end
end Ld
/-! text LsL -/
set_option Elab.async false
set_option linter.all false
set_option maxRecDepth 100000
set_option maxHeartbeats 4000000
namespace Ld
open PySem PySem.Spec L2
open PyProof.Rows hiding St
variable [Fs]

section
variable {X : Cx} {ex : EX} {W : WX} {HB : Hp} {pb : Option Addr} {r : Md} {σ : St} {H : Hp} {pa : Option Addr} {g : G} {δ : Env'}
/-- one turn -/
theorem turnD_at {F : PyData → M (Option (PyData × PyData))} {ds : List PyData} {acc out : List (PyData × PyData)} {i : Nat} {d : PyData} {gE : G} (hd : ds[i]? = some d) (h : loopD F (ds.drop i) acc g = .ok out gE) :
    ∃ o g1, F d g = .ok o g1 ∧ (match o with
      | some (k, v) => kOk acc k = true ∧ acc.length < maxLen ∧ loopD F (ds.drop (i + 1)) (dput acc k v) g1 = .ok out gE
      | none => loopD F (ds.drop (i + 1)) acc g1 = .ok out gE) := by
  obtain ⟨hi, e⟩ := List.getElem?_eq_some_iff.mp hd
  rw [List.drop_eq_getElem_cons hi, e] at h
  unfold loopD at h
  obtain ⟨o, g1, h1, h2⟩ := bnd_ok h
  refine ⟨o, g1, h1, ?_⟩
  cases o with
  | none => exact h2
  | some p =>
    obtain ⟨k, v⟩ := p
    dsimp only at h2 ⊢
    cases q : kOk acc k && decide (acc.length < maxLen) with
    | false => rw [q] at h2; cases h2
    | true =>
      rw [q] at h2
      rw [Bool.and_eq_true, decide_eq_true_eq] at q
      exact ⟨q.1, q.2, h2⟩
theorem turnD_in {c : M Bool} {x y : M DV} {o : Option (PyData × PyData)} {g1 : G} (h : turnD c x y g = .ok o g1) : ∃ k g2, c g = .ok k g2 ∧ (match k with
    | true => ∃ a b g3, x g2 = .ok (.d a) g3 ∧ y g3 = .ok (.d b) g1 ∧ o = some (a, b)
    | false => o = none ∧ g1 = g2) := by
  unfold turnD at h
  obtain ⟨k, g2, h1, h2⟩ := bnd_ok h
  refine ⟨k, g2, h1, ?_⟩
  cases k with
  | false =>
    have h2 : Res.ok (none : Option (PyData × PyData)) g2 = .ok o g1 := h2
    cases h2
    exact ⟨rfl, rfl⟩
  | true =>
    dsimp only at h2 ⊢
    obtain ⟨a, g3, h3, h4⟩ := bnd_ok h2
    obtain ⟨b, g4, h5, h6⟩ := bnd_ok h4
    cases a with
    | pen => cases h6
    | d a =>
      cases b with
      | pen => cases h6
      | d b =>
        have h6 : Res.ok (some (a, b)) g4 = .ok o g1 := h6
        cases h6
        exact ⟨a, b, g3, h3, h5, rfl⟩
/-- a new dict, D, and what is wanted of it -/
def NewD (K : PySem.W.Frag) (w : World) (r : Md) (Q : VK) : VK := fun v H2 => ∃ p1 g1 kvs D, v = .ref D ∧ Ow K w H2 (.dict kvs) (.ref D) ∧ p1 ≠ some D ∧ PenOk K w (dropD H2 D) p1 g1 ∧ okP K w (dropD H2 D) p1 r (.d (.dict kvs)) g1 Q
theorem ow_fill {K : PySem.W.Frag} {w : World} {H : Hp} {kvs : List (PyData × PyData)} {D : Addr} (h : Ow K w H (.dict kvs) (.ref D)) : Fill H D := by
  obtain ⟨b, e, ⟨ns, hr, _⟩ | ⟨ls, hr, _⟩⟩ := h <;> cases e <;> exact ⟨_, hr, fun xs => by simp, fun b u => by simp⟩
theorem newD_fin {pins : List (Addr × Obj)} {u : Value} {s : Shared} {Q : VK} (h : EP X pins σ (NewD X.K X.w r Q) u s) : EP X pins σ Q u s := by
  obtain ⟨v, H2, I, rv, p1, g1, kvs, D, rfl, ow, np, pen, q⟩ := h
  cases rv
  have f := ow_fill ow
  obtain ⟨b, e, ⟨ns, hr, rn⟩ | ⟨ls, hr, rl⟩⟩ := ow <;> cases e
  · have e := upd_drp hr
    rw [e] at I
    exact fin_dct I drp_self pen (rn.kp (Kp.to_drp f)) q
  · have e := upd_drp hr
    rw [e] at I
    exact fin_dcl I drp_self pen (rl.kp (Kp.to_drp f)) q
theorem dc_read {k v it c : E} {t : Tg} {Q : VK} (h : tE X.K X.w ex W HB pb r (.dc k v t it c) σ H Q) :
    tDk X.K X.w (tI X.K X.w ex W HB pb .read it) (gT X.K t) (tC1 X.K X.w ex W0 HB pb c) (tE X.K X.w ex W0 HB pb .pure k) (tE X.K X.w ex W0 HB pb .pure v) t.slots σ H (NewD X.K X.w r Q) := by
  obtain ⟨δ, g, pa, S, p⟩ := h
  simp only [ev] at p
  refine ⟨δ, g, pa, S, postG_mono (postG_st (post_bndG p)) fun ds g1 H1 p1 ⟨st, p⟩ J Src wk kp src D nD => ?_⟩
  have S1 := S.step st
  obtain ⟨out, gE, hl, p⟩ := noX_in p
  obtain ⟨hz, wstop, wgo⟩ := wk
  refine ⟨fun i m H => m = ds.length - i ∧ i ≤ ds.length ∧ ∃ acc g' p', Ow X.K X.w H (.dict acc) (.ref D) ∧ Stp X.K X.w H1 p1 (dropD H D) p' g' ∧ p' ≠ some D ∧ Src (dropD H D) p' ∧ loopD (fun d => bnd (ofO (asgT t d (wipeD δ t.slots))) fun δ' => turnD (cndM c (ev true c δ')) (ev false k δ') (ev false v δ')) (ds.drop i) acc g' = .ok out gE, ⟨ds.length, by simp, Nat.zero_le _, [], g1, p1, ⟨D, rfl, .inr ⟨[], upd_same, .nil⟩⟩, ?_⟩, ?_⟩
  · rw [drp_upd, drp_none nD]
    exact ⟨Stp.refl S1.pen, ne_pen S1.pen nD, src, hl⟩
  · rintro i m H2 ⟨rfl, hi2, acc, g', p', ow, st2, npD, src2, hl2⟩
    have f2 := ow_fill ow
    have st3 : Stp X.K X.w (dropD H2 D) p' H2 p' g' := Stp.undrp st2.pen
    have src3 := kp.1 _ _ _ _ _ st3 src2
    have S2 : StOk X.K X.w HB pb σ H2 p' δ g' := (S1.step st2).step st3
    by_cases hlt : i < ds.length
    · obtain ⟨d, hd⟩ : ∃ d, ds[i]? = some d := ⟨_, List.getElem?_eq_getElem hlt⟩
      obtain ⟨o, gq, hF, hl3⟩ := turnD_at hd hl2
      obtain ⟨δ1, ga, hA', hF⟩ := bnd_ok hF
      obtain ⟨hA, eg⟩ := ofO_ok hA'
      subst eg
      obtain ⟨b, g2, hc, hk⟩ := turnD_in hF
      obtain ⟨jgo, jy⟩ := wgo i d H2 p' hd src3
      refine .inr ⟨jgo, _, fun H' h => ⟨ds.length - (i + 1), by omega, h⟩, fun x H3 hy => ?_⟩
      obtain ⟨hy, rp⟩ := jy x H3 hy
      have st4 := Stp.yld S2.pen hy
      have o3 := ow.step (fun a e => by cases e; exact npD) st4
      refine asgT_ok hA ((S2.step st4).wipe t.slots) rp fun σ' S' ew _ => ⟨(ew _ fun i h => h).trans (wipe_two fun i h => h), ?_⟩
      refine ⟨δ1, g', p', S', okG hc fun H4 p4 st5 => ?_⟩
      have o4 := o3.1.step o3.2 st5
      have toD : ∀ {H5 : Hp} {p5 : Option Addr} {g5 : G}, Stp X.K X.w H4 p4 H5 p5 g5 → Fill H5 D → p5 ≠ some D → Stp X.K X.w (dropD H2 D) p' (dropD H5 D) p5 g5 := fun st6 f n => (st4.trans (st5.trans st6)).drp f n
      cases b with
      | false =>
        obtain ⟨rfl, rfl⟩ := hk
        have st6 := toD (Stp.refl st5.pen) (ow_fill o4.1) (o4.2 D rfl)
        exact ⟨rfl, hlt, acc, gq, p4, o4.1, st2.trans st6, o4.2 D rfl, kp.1 _ _ _ _ _ st6 src2, hl3⟩
      | true =>
        obtain ⟨ka, va, g3, hx, hv, rfl⟩ := hk
        obtain ⟨c1, c2, hl4⟩ := hl3
        refine ⟨δ1, g2, p4, S'.step st5, okM hx fun u H5 p5 st6 du _ => ?_⟩
        have o5 := o4.1.step o4.2 st6
        refine ⟨δ1, g3, p5, (S'.step st5).step st6, okM hv fun u2 H6 p6 st7 du2 _ => ?_⟩
        have o6 := o5.1.step o5.2 st7
        refine ⟨D, acc, ka, va, rfl, o6.1, Rp.kp st7.kp du, du2, c1, c2, fun ob ow' => ?_⟩
        have st8 := toD (st6.trans st7) (ow_fill o6.1) (o6.2 D rfl)
        refine ⟨rfl, hlt, dput acc ka va, gq, p6, ow' _ upd_same (Kp.upd (ow_fill o6.1)), ?_⟩
        rw [drp_upd]
        exact ⟨st2.trans st8, o6.2 D rfl, kp.1 _ _ _ _ _ st8 src2, hl4⟩
    · have e : i = ds.length := by omega
      subst e
      refine .inl ⟨wstop H2 p' src3, ?_⟩
      rw [List.drop_length] at hl2
      have hl2 : Res.ok acc g' = Res.ok out gE := hl2
      cases hl2
      exact ⟨p', _, _, D, rfl, ow, npD, st2.pen, post_step st2 p⟩
theorem n_dc (R : Rdy X) {k v it c : E} {t : Tg} {kx vx tg iter : Expr} {ifs : List Expr} {scope : Scope} {own : List (Str × Nat)} {pos : Pos} (ok : BlkOk X.N X.env.scope scope own) (hi : PI X tg iter (tI X.K X.w ex W HB pb .read it)) (ho : own.map (·.2) = t.slots)
    (inn : ∀ (s : Shared) (H : Hp) (C : Addr) (cl : List (Str × Addr)) (fp : List Addr), PG (X.blk s H scope (compEnvC scope cl C X.env) fp) tg (gT X.K t) ∧ PTs (X.blk s H scope (compEnvC scope cl C X.env) fp) ifs (tC1 X.K X.w ex W0 HB pb c) ∧
      PE (X.blk s H scope (compEnvC scope cl C X.env) fp) kx (tE X.K X.w ex W0 HB pb .pure k) ∧ PE (X.blk s H scope (compEnvC scope cl C X.env) fp) vx (tE X.K X.w ex W0 HB pb .pure v))
    (hn : nice iter = true) : PE X (.DictComp kx vx [⟨tg, iter, ifs, 0⟩] scope pos) (TX X ex W HB pb r (.dc k v t it c)) :=
  ⟨fun pins s σ H Q I h => wpAny_mono ((pe_dk (by have := R.hu; omega) R.calm R.nd hi ok inn (nice_fold hn _)).run pins s σ H (NewD X.K X.w r Q) I (by rw [ho]; exact dc_read h)) (fun u s' z => newD_fin z) fun _ _ z => z⟩
end
end Ld
/-! text LxZ -/
set_option Elab.async false
set_option linter.all false
set_option maxRecDepth 100000
set_option maxHeartbeats 8000000
namespace Ld
open PySem PySem.Spec L2
open PyProof.Rows hiding St
variable [Fs]

/-! ### errors of the program: how they lie -/
/-- the fields of an error lie in its dict -/
def exD (K : PySem.W.Frag) (w : World) (fs : List (Str × PyData)) (H : Hp) (d : Option Addr) : Prop := ∃ dx gs, d = some dx ∧ H dx = some (.xd gs) ∧ ∀ f x, fs.lookup f = some x → ∃ v, gs.lookup f = some v ∧ Rp K w H x v
theorem exD.step {K : PySem.W.Frag} {w : World} {fs : List (Str × PyData)} {H H' : Hp} {d pa pa' : Option Addr} {g g' : G} (h : exD K w fs H d) (p : PenOk K w H pa g) (st : Stp K w H pa H' pa' g') : exD K w fs H' d := by
  obtain ⟨dx, gs, e, h1, h2⟩ := h
  refine ⟨dx, gs, e, st.gr _ _ h1 (p.not h1 fun xs z => by cases z), fun f x hf => ?_⟩
  obtain ⟨v, q1, q2⟩ := h2 f x hf
  exact ⟨v, q1, q2.kp st.kp⟩
/-- what __init__(self, ..) of an error does -/
def spI (C : Addr) (fn : List Str) : Sp := fun vs H Q _ => ∃ a ws, vs = .ref a :: ws ∧ ws.length = fn.length ∧ H a = some (exo a C none) ∧ ∀ d gs, H d = none → d ≠ a → (∀ f v, (fn.zip ws).lookup f = some v → gs.lookup f = some v) → Q .non (upd (upd H d (exd d gs)) a (exo a C (some d)))
/-- names of built-in classes of errors -/
def excNm : Str → Option String := fun b => if b = "ValueError" then some "ValueError" else if b = "RuntimeError" then some "RuntimeError" else if b = "OverflowError" then some "OverflowError" else if b = "LookupError" then some "LookupError" else none
theorem excNm_boot {b : Str} {n : String} (h : excNm b = some n) : bootBuiltins b = some (.type n) ∧ b ≠ "__name__" ∧ (b == ("__debug__" : Str)) = false := by
  unfold excNm at h
  split at h
  · rename_i e; subst e; cases h; exact ⟨by decide +kernel, by decide, by decide⟩
  · split at h
    · rename_i e; subst e; cases h; exact ⟨by decide +kernel, by decide, by decide⟩
    · split at h
      · rename_i e; subst e; cases h; exact ⟨by decide +kernel, by decide, by decide⟩
      · split at h
        · rename_i e; subst e; cases h; exact ⟨by decide +kernel, by decide, by decide⟩
        · cases h
/-- a class of errors, as it is read and looked for -/
structure ExRd (K : PySem.W.Frag) (mg : Str → Option Value) (ex : EX) (x : Str) (c : Nat) (fn : List Str) (ib : List (Str × Bool)) (w : World) (C : Addr) : Prop where
  mg : mg x = some (.ref C)
  is : ∀ {fs H C' d}, ex c fs H C' d ↔ C' = .ref C ∧ exD K w fs H d
  xf : XfC K C
  no : ∀ f ∈ fn, PySem.W.findIn K (.ref C) f = some none
  cl : (PySem.W.clsIn K C).isSome = true
  ca : PySem.W.findIn K (.ref C) "__class__" = some (some (.builtin "object.__class__"))
  cn : PySem.W.specialIn K (.builtin "object.__class__") "__get__" = some (some (.builtin "getset_descriptor.__get__"))
  ct : PySem.W.takesIn K (.builtin "object.__class__") = some true
  cm : PySem.W.mroIn K C (.type "object") = some true
  ib : ∀ b v, (b, v) ∈ ib → ∃ n, excNm b = some n ∧ PySem.W.kitOne K (.ref C) (.type n) = some v
  exm : ∀ {c' fs H C' d}, ex c' fs H C' d → PySem.W.exmOne K C' (.ref C) = some (decide (c = c'))
/-- how it is made -/
structure ExMk (P : Program) (w : World) (K : PySem.W.Frag) (mg : Str → Option Value) (base : Heap) (fn : List Str) (C : Addr) (k : Nat) (fI : Addr) (fd : FuncData) (ps : List Str) : Prop where
  oex : OexC K C
  ini : PySem.W.findIn K (.ref C) "__init__" = some (some (.ref fI))
  ty : PySem.W.typeIn K (.ref fI) = some (.type "function")
  fn : FnOk P w K mg base (L2.CX P w) k fI fd ps (spI C fn)
  bd : Binds K fd ps []
structure XCal (X : Cx) (ex : EX) (x : Str) (c : Nat) (fn : List Str) (ib : List (Str × Bool)) : Prop where
  at_ : ∃ C k fI fd ps, ExRd X.K X.mg ex x c fn ib X.w C ∧ ExMk X.prog X.w X.K X.mg X.base fn C k fI fd ps ∧ Room (k + 1) X.A
end Ld
/-! text LdX -/
set_option Elab.async false
set_option linter.all false
set_option maxRecDepth 100000
set_option maxHeartbeats 4000000
namespace Ld
open PySem PySem.Spec L2
open PyProof.Rows hiding St
variable [Fs]

/-! ### the checker -/
/-- what a text may name -/
structure Tab where
  cals : List (Str × Nat)
  blts : List Str
  globs : List (Str × PyData)
  /-- classes of errors: name, number, fields, isinstance of built-in ones -/
  excs : List (Str × Nat × List Str × List (Str × Bool)) := []
structure Cst where
  N : List Str
  sc : Scope
  blk : Option Scope
  T : Tab
def kdOf (c : Cst) (x : Str) : Option NameKind := c.sc.names.lookup x
def visC (c : Cst) (x : Str) : Bool := match kdOf c x with
  | some .local => true
  | some .cell => true
  | some .free => true
  | _ => false
def locC (c : Cst) (x : Str) : Bool := match kdOf c x with
  | some .local => true
  | some .cell => true
  | _ => false
def fnC (c : Cst) (x : Str) : Bool := match c.blk with
  | none => true
  | some s => (match s.names.lookup x with
    | some .cell => true
    | _ => false)
def isLoc (c : Cst) (x : Str) : Bool := match kdOf c x with
  | some .local => true
  | _ => false
def stoC (c : Cst) (x : Str) : Bool := locC c x && (fnC c x || isLoc c x)
def gloC (c : Cst) (x : Str) : Bool := match kdOf c x with
  | some .globalImplicit => true
  | _ => false
def strEq (x y : Str) : Bool := decide (x = y)
def atC (c : Cst) (i : Nat) (x : Str) : Bool := match c.N[i]? with
  | some y => strEq y x
  | none => false
def nmC (x : Str) : Bool := !(x == ("__debug__" : Str)) && !(x == ("__classdict__" : Str))
def varC (c : Cst) (i : Nat) (x : Str) : Bool := atC c i x && (visC c x && nmC x)
def bltC (c : Cst) (x : Str) : Bool := gloC c x && c.T.blts.any (strEq x)
def opEq : Operator → Bop → Bool
  | .Add, .add => true
  | .Sub, .sub => true
  | .Mult, .mul => true
  | .Mod, .mod => true
  | .FloorDiv, .fdiv => true
  | .Pow, .pow => true
  | _, _ => false
def cpEq : CmpOp → Cop → Bool
  | .Eq, .eq => true
  | .NotEq, .ne => true
  | .Lt, .lt => true
  | .LtE, .le => true
  | .Gt, .gt => true
  | .GtE, .ge => true
  | .In, .isin => true
  | .NotIn, .notin => true
  | .Is, .is => true
  | .IsNot, .isnot => true
  | _, _ => false
theorem opEq_eq {a : Operator} {b : Bop} (h : opEq a b = true) : a = opOf b := by cases a <;> cases b <;> first | rfl | cases h
theorem cpEq_eq {a : CmpOp} {b : Cop} (h : cpEq a b = true) : a = copOf b := by cases a <;> cases b <;> first | rfl | cases h
mutual
/-- a target and its names -/
def tgOwn : Tg → Expr → Option (List (Str × Nat))
  | .nm i, .Name x _ => some [(x, i)]
  | .tp ts, .Tuple es _ _ => tgsOwn ts es
  | _, _ => none
def tgsOwn : Tgs → List Expr → Option (List (Str × Nat))
  | .nil, [] => some []
  | .cons t r, e :: es => (match tgOwn t e, tgsOwn r es with
    | some a, some b => some (a ++ b)
    | _, _ => none)
  | _, _ => none
end
mutual
theorem tgOwn_slots : ∀ {t : Tg} {x : Expr} {own : List (Str × Nat)}, tgOwn t x = some own → own.map (·.2) = t.slots
  | .nm i, x, own, h => by
    cases x <;> try (simp [tgOwn] at h; done)
    rw [show own = [_] from (Option.some.inj h).symm]
    rfl
  | .tp ts, x, own, h => by
    cases x <;> try (simp [tgOwn] at h; done)
    exact tgsOwn_slots (show tgsOwn ts _ = some own from h)
theorem tgsOwn_slots : ∀ {t : Tgs} {x : List Expr} {own : List (Str × Nat)}, tgsOwn t x = some own → own.map (·.2) = t.slots
  | .nil, x, own, h => by
    cases x with
    | nil => cases h; rfl
    | cons => simp [tgsOwn] at h
  | .cons t r, x, own, h => by
    cases x with
    | nil => simp [tgsOwn] at h
    | cons e es =>
      have h : (match tgOwn t e, tgsOwn r es with | some a, some b => some (a ++ b) | _, _ => none) = some own := h
      cases q1 : tgOwn t e with
      | none => rw [q1] at h; cases h
      | some a =>
        cases q2 : tgsOwn r es with
        | none => rw [q1, q2] at h; cases h
        | some b =>
          rw [q1, q2] at h
          cases h
          rw [List.map_append, tgOwn_slots q1, tgsOwn_slots q2]
          rfl
end
mutual
/-- a target may be stored -/
def chkT (c : Cst) : Tg → Expr → Bool
  | .nm i, .Name x _ => atC c i x && stoC c x
  | .tp ts, .Tuple es _ _ => chkTs c ts es
  | _, _ => false
def chkTs (c : Cst) : Tgs → List Expr → Bool
  | .nil, [] => true
  | .cons t r, e :: es => nice e && (chkT c t e && chkTs c r es)
  | _, _ => false
end
/-- what an expression stands for: a value, a test, what is walked -/
inductive Kd where
  | v (r : Md)
  | t
  | i (r : Md)
def Kd.md : Kd → Md
  | .v r => r
  | .t => .read
  | .i r => r
def noOwn : Kd → Bool
  | .v .own => false
  | .i .own => false
  | _ => true
def isI : Kd → Bool
  | .i _ => true
  | _ => false
def isT : Kd → Bool
  | .t => true
  | _ => false
/-- as a value that is no test of its own -/
def cstC (d : PyData) (x : Expr) : Bool := match d, x with
  | .none, .Constant .none _ _ => true
  | .bool b, .Constant (.bool b') _ _ => b == b'
  | .int i, .Constant (.int i') _ _ => decide (i = i')
  | .str s, .Constant (.str s') _ _ => strEq s s'
  | _, _ => false
def isTp : Expr → Bool
  | .Tuple .. => true
  | _ => false
def omitE : E → Bool
  | .omit => true
  | _ => false
def innerC (c : Cst) (s : Scope) : Cst := { c with sc := relS s c.sc, blk := some s }
def isMinus1 : Expr → Bool
  | .UnaryOp .USub (.Constant (.int 1) _ _) _ => true
  | _ => false
def isTyNm (t : Ty) (x : Str) : Bool := strEq x (tyNm t)
def optC (e : E) (o : Option Expr) (f : Expr → Bool) : Bool := match o with
  | none => omitE e
  | some l => !omitE e && f l
def ifsC (e : E) (l : List Expr) (f : Expr → Bool) : Bool := match l with
  | [] => omitE e
  | [y] => !omitE e && f y
  | _ => false
def notDict (b : Bi) : Bool := match b with
  | .dict => false
  | _ => true
def ownC (o : Option (List (Str × Nat))) (f : List (Str × Nat) → Bool) : Bool := match o with
  | some own => f own
  | none => false
mutual
def chk (c : Cst) (m : Kd) (tg : Expr) : E → Expr → Bool
  | .omit, _ => false
  | .var i, x => noOwn m && (match x with
    | .Name n _ => varC c i n
    | _ => false)
  | .cst d, x => cstC d x
  | .glob n d, x => (match x with
    | .Name n' _ => strEq n n' && (gloC c n && (nmC n && c.T.globs.any fun p => strEq p.1 n && beqD p.2 d))
    | _ => false)
  | .tup es, x => (match x with
    | .Tuple xs _ _ => decide (es.len ≤ 1000) && chks c .pure es xs
    | _ => false)
  | .lst es, x => (match x with
    | .List xs _ => decide (es.len ≤ 1000) && chks c .pure es xs
    | _ => false)
  | .dnew, x => (match x with
    | .Dict [] [] _ => true
    | _ => false)
  | .sub a b, x => noOwn m && (match x with
    | .Subscript y z _ => nice z && (chk c (.v .read) tg a y && chk c (.v .pure) tg b z)
    | _ => false)
  | .slc a lo hi, x => (match x with
    | .Subscript y (.Slice l h none _) _ => chk c (.v .read) tg a y && (optC lo l (fun l => chk c (.v .pure) tg lo l) && optC hi h (fun l => chk c (.v .pure) tg hi l))
    | _ => false)
  | .rev a, x => (match x with
    | .Subscript y (.Slice none none (some s) _) _ => isMinus1 s && chk c (.v .read) tg a y
    | _ => false)
  | .bin o a b, x => (match x with
    | .BinOp y op z _ => opEq op o && (chk c (.v .read) tg a y && chk c (.v .read) tg b z)
    | _ => false)
  | .neg a, x => (match x with
    | .UnaryOp .USub y _ => chk c (.v .pure) tg a y
    | _ => false)
  | .not a, x => (match x with
    | .UnaryOp .Not y _ => chk c (match m with
      | .t => .t
      | _ => .v .read) tg a y
    | _ => false)
  | .and a b, x => noOwn m && (!isI m && (match x with
    | .BoolOp .And (y :: z :: r) p => chk c m tg a y && chk c m tg b (mkB .And (z :: r) p)
    | _ => false))
  | .or a b, x => noOwn m && (!isI m && (match x with
    | .BoolOp .Or (y :: z :: r) p => chk c m tg a y && chk c m tg b (mkB .Or (z :: r) p)
    | _ => false))
  | .cmp o a b, x => (match x with
    | .Compare y [op] [z] _ => nice z && (cpEq op o && (chk c (.v .read) tg a y && chk c (.v .read) tg b z))
    | _ => false)
  | .chn o p a b e, x => !isT m && (match x with
    | .Compare y [op, op'] [z, u] _ => nice u && (cpEq op o && (cpEq op' p && (chk c (.v .pure) tg a y && (chk c (.v .pure) tg b z && chk c (.v .pure) tg e u))))
    | _ => false)
  | .ife e a b, x => !isT m && (match x with
    | .IfExp z y u _ => chk c .t tg e z && (chk c (.v m.md) tg a y && chk c (.v m.md) tg b u)
    | _ => false)
  | .call n es, x => noOwn m && (match x with
    | .Call (.Name n' _) xs [] _ => strEq n n' && (gloC c n && (nmC n && ((c.T.cals.any fun p => strEq p.1 n && decide (p.2 = es.len)) && (niceAll xs && chks c .pure es xs))))
    | _ => false)
  | .isi a t, x => (match x with
    | .Call (.Name f _) [y, .Name n _] [] _ => strEq f "isinstance" && (bltC c "isinstance" && (isTyNm t n && (bltC c (tyNm t) && (nice y && chk c (.v .read) tg a y))))
    | _ => false)
  | .bi b es, x => (match x with
    | .Call (.Name f _) (y :: ys) [] _ => strEq f (biNm b) && (bltC c (biNm b) && (niceAll (y :: ys) && (notDict b && chks c .read es (y :: ys))))
    | _ => false)
  | .sset a, x => (match x with
    | .Call (.Name f _) [.Call (.Name g _) [y] [] _] [] _ => strEq f "sorted" && (bltC c "sorted" && (strEq g "set" && (bltC c "set" && (nice y && chk c (.v .read) tg a y))))
    | _ => false)
  | .lc x' t it cnd, x => (match x with
    | .ListComp elt [⟨tg', iter, ifs, a⟩] s _ => decide (a = 0) && (nice iter && (chk c (.i .read) tg' it iter && (ownC (tgOwn t tg') (fun own => blkC c.N c.sc s own) && (chkT (innerC c s) t tg' && (ifsC cnd ifs (fun y => chk (innerC c s) .t tg' cnd y) && chk (innerC c s) (.v .pure) tg' x' elt)))))
    | _ => false)
  | .dc k v t it cnd, x => (match x with
    | .DictComp kx vx [⟨tg', iter, ifs, a⟩] s _ => decide (a = 0) && (nice iter && (chk c (.i .read) tg' it iter && (ownC (tgOwn t tg') (fun own => blkC c.N c.sc s own) && (chkT (innerC c s) t tg' && (ifsC cnd ifs (fun y => chk (innerC c s) .t tg' cnd y) && (chk (innerC c s) (.v .pure) tg' k kx && chk (innerC c s) (.v .pure) tg' v vx))))))
    | _ => false)
  | .rng lo hi, x => isI m && (match x with
    | .Call (.Name f _) [y] [] _ => strEq f "range" && (bltC c "range" && (omitE lo && (!omitE hi && (nice y && chk c (.v .pure) tg hi y))))
    | .Call (.Name f _) [y, z] [] _ => strEq f "range" && (bltC c "range" && (!omitE lo && (!omitE hi && (nice y && (nice z && (chk c (.v .pure) tg lo y && chk c (.v .pure) tg hi z))))))
    | _ => false)
  | .enm a, x => isI m && (noOwn m && (isTp tg && (match x with
    | .Call (.Name f _) [y] [] _ => strEq f "enumerate" && (bltC c "enumerate" && (nice y && chk c (.v m.md) tg a y))
    | _ => false)))
  | .pget i k, x => noOwn m && (match x with
    | .Subscript (.Name n _) (.Constant (.int j) _ _) _ => varC c i n && decide (j = (k : Int))
    | _ => false)
  | _, _ => false
def chks (c : Cst) (r : Md) : Es → List Expr → Bool
  | .nil, [] => true
  | .cons e es, x :: xs => nice x && (chk c (.v r) (.Name "" ⟨0, 0, 0, 0⟩) e x && chks c r es xs)
  | _, _ => false
end
end Ld
/-! text LdY -/
set_option Elab.async false
set_option linter.all false
set_option maxRecDepth 100000
set_option maxHeartbeats 8000000
namespace Ld
open PySem PySem.Spec L2
open PyProof.Rows hiding St
variable [Fs]

/-- the context is as the checker is told -/
structure Fit (X : Cx) (ex : EX) (W : WX) (c : Cst) : Prop where
  rdy : Rdy X
  tk : Takes X W
  N : X.N = c.N
  sc : X.env.scope = c.sc
  kind : c.sc.kind = .function
  fn : ∀ x, fnC c x = true → X.fn x = true
  cal : ∀ n np, (n, np) ∈ c.T.cals → Cal X ex n (Fs.f n) np
  blt : ∀ n, n ∈ c.T.blts → X.mg n = none
  glb : ∀ n d, (n, d) ∈ c.T.globs → GlobOk X n d
  exc : ∀ n k fn ib, (n, k, fn, ib) ∈ c.T.excs → XCal X ex n k fn ib
section
variable {X : Cx} {ex : EX} {W : WX} {HB : Hp} {pb : Option Addr} {c : Cst}
theorem strEq_eq {x y : Str} (h : strEq x y = true) : x = y := of_decide_eq_true h
theorem Fit.at (F : Fit X ex W c) {i : Nat} {x : Str} (h : atC c i x = true) : X.N[i]? = some x := by
  rw [F.N]
  unfold atC at h
  cases q : c.N[i]? with
  | none => rw [q] at h; cases h
  | some y => rw [q] at h; rw [strEq_eq h]
theorem Fit.vis (F : Fit X ex W c) {x : Str} (h : visC c x = true) : Vis X.env.scope x := by
  unfold Vis
  rw [F.sc]
  unfold visC kdOf at h
  split at h
  · rename_i q; exact .inl q
  · rename_i q; exact .inr (.inl q)
  · rename_i q; exact .inr (.inr q)
  · cases h
theorem Fit.loc (F : Fit X ex W c) {x : Str} (h : stoC c x = true) : L2.Loc X.env.scope x ∧ (X.fn x = true ∨ X.env.scope.names.lookup x = some .local) := by
  unfold L2.Loc
  rw [F.sc]
  unfold stoC locC isLoc kdOf at h
  rw [Bool.and_eq_true, Bool.or_eq_true] at h
  obtain ⟨h1, h2⟩ := h
  refine ⟨?_, ?_⟩
  · split at h1
    · rename_i q; exact .inl q
    · rename_i q; exact .inr q
    · cases h1
  · rcases h2 with h2 | h2
    · exact .inl (F.fn x h2)
    · split at h2
      · rename_i q; exact .inr q
      · cases h2
theorem Fit.glo (F : Fit X ex W c) {x : Str} (h : gloC c x = true) : Gl X x := by
  show X.env.scope.names.lookup x = some .globalImplicit
  rw [F.sc]
  unfold gloC kdOf at h
  split at h
  · assumption
  · cases h
theorem nmC_ok {x : Str} (h : nmC x = true) : (x == ("__debug__" : Str)) = false ∧ (x == ("__classdict__" : Str)) = false := by
  unfold nmC at h
  rw [Bool.and_eq_true, Bool.not_eq_true', Bool.not_eq_true'] at h
  exact h
theorem Fit.bl (F : Fit X ex W c) {x : Str} (h : bltC c x = true) : Gl X x ∧ X.mg x = none := by
  unfold bltC at h
  rw [Bool.and_eq_true, List.any_eq_true] at h
  obtain ⟨h1, y, hy, e⟩ := h
  rw [← strEq_eq e] at hy
  exact ⟨F.glo h1, F.blt x hy⟩
theorem Fit.inner (F : Fit X ex W c) {s : Shared} {H : Hp} {scope : Scope} {C : Addr} {cl : List (Str × Addr)} {fp : List Addr} (hk : scope.kind = .function) : Fit (X.blk s H scope (compEnvC scope cl C X.env) fp) ex W0 (innerC c scope) where
  rdy := ⟨F.rdy.hu, F.rdy.calm, F.rdy.nd, F.rdy.gd, F.rdy.sys⟩
  tk := fun u s' ⟨_, _, _, _, _, _, _, _, _, _, _, _, _, _, _, _, w⟩ => w.elim
  N := F.N
  sc := by
    show relS scope X.env.scope = relS scope c.sc
    rw [F.sc]
  kind := hk
  fn := fun x h => by
    unfold fnC innerC at h
    show (scope.names.lookup x == some .cell) = true
    simp only at h
    split at h
    · rename_i q; rw [q]; rfl
    · cases h
  cal := fun n np h => ⟨(F.cal n np h).fn⟩
  blt := F.blt
  glb := fun n d h => ⟨(F.glb n d h).ex, (F.glb n d h).flat⟩
  exc := fun n k fn ib h => ⟨(F.exc n k fn ib h).at_⟩
theorem Fit.tr (F : Fit X ex W c) {pn : List (Addr × Obj)} {xe : Value → Shared → Prop} {W' : WX} (tk : Takes (X.tr pn xe) W') : Fit (X.tr pn xe) ex W' c where
  rdy := ⟨F.rdy.hu, F.rdy.calm, F.rdy.nd, F.rdy.gd, F.rdy.sys⟩
  tk := tk
  N := F.N
  sc := F.sc
  kind := F.kind
  fn := F.fn
  cal := fun n np h => ⟨(F.cal n np h).fn⟩
  blt := F.blt
  glb := fun n d h => ⟨(F.glb n d h).ex, (F.glb n d h).flat⟩
  exc := fun n k fn ib h => ⟨(F.exc n k fn ib h).at_⟩
/-- what the checker says of an expression -/
def Good (X : Cx) (ex : EX) (W : WX) (HB : Hp) (pb : Option Addr) (m : Kd) (tg : Expr) (e : E) (x : Expr) : Prop := match m with
  | .v r => PE X x (TX X ex W HB pb r e)
  | .t => PT X x (tT X.K X.w ex W HB pb e)
  | .i r => PI X tg x (tI X.K X.w ex W HB pb r e)
theorem good_of {m : Kd} {tg x : Expr} {e : E} (h : PE X x (TX X ex W HB pb m.md e)) (ht : tstv x = true) (hm : m ≠ .i .own) : Good X ex W HB pb m tg e x := by
  cases m with
  | v r => exact h
  | t => exact pt_plain h ht
  | i r => exact pi_data (fun e => hm (by rw [e])) h
theorem noOwn_md {m : Kd} (h : noOwn m = true) : m.md ≠ .own := by
  cases m with
  | v r => cases r <;> first | (intro e; cases e; done) | cases h
  | t => intro e; cases e
  | i r => cases r <;> first | (intro e; cases e; done) | cases h
theorem cstC_eq {d : PyData} {x : Expr} (h : cstC d x = true) : ∃ k p, cstE d k p = some x := by
  cases d <;> cases x <;> try (simp [cstC] at h; done)
  all_goals (rename_i v k p; cases v <;> try (simp [cstC] at h; done))
  · exact ⟨k, p, rfl⟩
  · refine ⟨k, p, ?_⟩
    have := eq_of_beq (show (_ == _) = true from h)
    rw [this]; rfl
  · refine ⟨k, p, ?_⟩
    have := of_decide_eq_true h
    rw [this]; rfl
  · refine ⟨k, p, ?_⟩
    rw [strEq_eq h]; rfl
mutual
theorem chkT_ok (F : Fit X ex W c) : ∀ {t : Tg} {x : Expr}, chkT c t x = true → PG X x (gT X.K t)
  | .nm i, x, h => by
    cases x <;> try (simp [chkT] at h; done)
    have h : (atC c i _ && stoC c _) = true := h
    rw [Bool.and_eq_true] at h
    obtain ⟨l1, l2⟩ := F.loc h.2
    exact pg_name F.rdy.nd (F.at h.1) l1 l2
  | .tp ts, x, h => by
    cases x <;> try (simp [chkT] at h; done)
    obtain ⟨h1, h2, h3⟩ := chkTs_ok F (show chkTs c ts _ = true from h)
    exact pg_tup F.rdy.calm h1 h2 h3
theorem chkTs_ok (F : Fit X ex W c) : ∀ {t : Tgs} {es : List Expr}, chkTs c t es = true → PGs X es (gTs X.K t) ∧ (assignEach es X.env).length = t.len ∧ (assignEach es X.env).findIdx? (·.1) = none
  | .nil, es, h => by
    cases es with
    | nil => exact ⟨pgs_nil, rfl, rfl⟩
    | cons => simp [chkTs] at h
  | .cons t r, es, h => by
    cases es with
    | nil => simp [chkTs] at h
    | cons e es =>
      have h : (nice e && (chkT c t e && chkTs c r es)) = true := h
      rw [Bool.and_eq_true, Bool.and_eq_true] at h
      obtain ⟨h0, h1, h2⟩ := h
      obtain ⟨k1, k2, k3⟩ := chkTs_ok F h2
      have ea : assignEach (e :: es) X.env = (false, assign e X.env) :: assignEach es X.env := by cases e <;> first | rfl | cases h0
      refine ⟨pgs_cons (chkT_ok F h1) k1 (by rw [ea]; rfl), by rw [ea, List.length_cons, k2]; rfl, ?_⟩
      rw [ea, List.findIdx?_cons, k3]
      rfl
end
end
end Ld
/-! text LdZ -/
set_option Elab.async false
set_option linter.all false
set_option maxRecDepth 100000
set_option maxHeartbeats 8000000
namespace Ld
open PySem PySem.Spec L2
open PyProof.Rows hiding St
variable [Fs]
section
variable {X : Cx} {ex : EX} {W : WX} {HB : Hp} {pb : Option Addr} {c : Cst}
theorem and2 {a b : Bool} (h : (a && b) = true) : a = true ∧ b = true := by rwa [Bool.and_eq_true] at h
theorem not1 {a : Bool} (h : (!a) = true) : a = false := by rwa [Bool.not_eq_true'] at h
theorem omit_ne {e : E} (h : omitE e = false) : e ≠ .omit := by rintro rfl; cases h
theorem omit_eq {e : E} (h : omitE e = true) : e = .omit := by cases e <;> first | rfl | cases h
theorem good_v {tg x : Expr} {e : E} {r : Md} (h : Good X ex W HB pb (.v r) tg e x) : PE X x (TX X ex W HB pb r e) := h
end
mutual
theorem chk_ok {ex : EX} {HB : Hp} {pb : Option Addr} : ∀ (e : E) {X : Cx} {W : WX} {c : Cst} {m : Kd} {tg x : Expr}, Fit X ex W c → m ≠ .i .own → chk c m tg e x = true → Good X ex W HB pb m tg e x
  | .omit, X, W, c, m, tg, x, F, hm, h => by simp [chk] at h
  | .var i, X, W, c, m, tg, x, F, hm, h => by
    cases x <;> try (simp [chk] at h; done)
    rename_i n p
    obtain ⟨h0, h⟩ := and2 (show (noOwn m && varC c i n) = true from h)
    obtain ⟨h1, h⟩ := and2 (show (atC c i n && (visC c n && nmC n)) = true from h)
    obtain ⟨h2, h3⟩ := and2 h
    exact good_of (n_var (noOwn_md h0) (F.at h1) (F.vis h2) (nmC_ok h3).1 (nmC_ok h3).2) rfl hm
  | .cst d, X, W, c, m, tg, x, F, hm, h => by
    obtain ⟨k, p, e⟩ := cstC_eq (show cstC d x = true from h)
    refine good_of (n_cst e) ?_ hm
    cases d <;> cases e <;> rfl
  | .glob n d, X, W, c, m, tg, x, F, hm, h => by
    cases x <;> try (simp [chk] at h; done)
    rename_i n' p
    obtain ⟨h0, h⟩ := and2 (show (strEq n n' && (gloC c n && (nmC n && c.T.globs.any fun p => strEq p.1 n && beqD p.2 d))) = true from h)
    obtain ⟨h1, h⟩ := and2 h
    obtain ⟨h2, h⟩ := and2 h
    obtain ⟨⟨q1, q2⟩, hq, h⟩ := List.any_eq_true.mp h
    obtain ⟨h3, h4⟩ := and2 h
    have e1 := strEq_eq h3
    have e2 := eq_of_beqD _ _ h4
    simp only at e1 e2
    subst e1 e2
    have e3 := strEq_eq h0
    subst e3
    exact good_of (n_glob (F.glo h1) (F.glb _ _ hq) (nmC_ok h2).1) rfl hm
  | .tup es, X, W, c, m, tg, x, F, hm, h => by
    cases x <;> try (simp [chk] at h; done)
    obtain ⟨h0, h⟩ := and2 (show (decide (es.len ≤ 1000) && chks c .pure es _) = true from h)
    exact good_of (n_tup (chks_ok es F h) (of_decide_eq_true h0)) rfl hm
  | .lst es, X, W, c, m, tg, x, F, hm, h => by
    cases x <;> try (simp [chk] at h; done)
    obtain ⟨h0, h⟩ := and2 (show (decide (es.len ≤ 1000) && chks c .pure es _) = true from h)
    exact good_of (n_lst (chks_ok es F h) (of_decide_eq_true h0)) rfl hm
  | .dnew, X, W, c, m, tg, x, F, hm, h => by
    cases x <;> try (simp [chk] at h; done)
    rename_i ks vs p
    cases ks <;> cases vs <;> try (simp [chk] at h; done)
    exact good_of n_dnew rfl hm
  | .sub a b, X, W, c, m, tg, x, F, hm, h => by
    cases x <;> try (simp [chk] at h; done)
    obtain ⟨h0, h⟩ := and2 (show (noOwn m && (nice _ && (chk c (.v .read) tg a _ && chk c (.v .pure) tg b _))) = true from h)
    obtain ⟨h1, h⟩ := and2 h
    obtain ⟨h2, h3⟩ := and2 h
    exact good_of (n_ix F.rdy (noOwn_md h0) (good_v (chk_ok a F (by simp) h2)) (good_v (chk_ok b F (by simp) h3)) h1) rfl hm
  | .slc a lo hi, X, W, c, m, tg, x, F, hm, h => by
    cases x <;> try (simp [chk] at h; done)
    rename_i y s p
    cases s <;> try (simp [chk] at h; done)
    rename_i l u st p2
    cases st <;> try (simp [chk] at h; done)
    obtain ⟨h1, h⟩ := and2 (show (chk c (.v .read) tg a y && (optC lo l (fun l => chk c (.v .pure) tg lo l) && optC hi u (fun l => chk c (.v .pure) tg hi l))) = true from h)
    obtain ⟨h2, h3⟩ := and2 h
    have po : ∀ (e : E) (o : Option Expr), (∀ x, chk c (.v .pure) tg e x = true → PE X x (TX X ex W HB pb .pure e)) → optC e o (fun l => chk c (.v .pure) tg e l) = true → PO X o (tPO X.K X.w ex W HB pb e) := fun e o he h => by
      cases o with
      | none => rw [omit_eq h]; exact n_po0
      | some l =>
        obtain ⟨h4, h5⟩ := and2 h
        exact n_po1 (he l h5) (omit_ne (not1 h4))
    exact good_of (n_slc (good_v (chk_ok a F (by simp) h1)) (po lo l (fun x hx => good_v (chk_ok lo F (by simp) hx)) h2) (po hi u (fun x hx => good_v (chk_ok hi F (by simp) hx)) h3)) rfl hm
  | .rev a, X, W, c, m, tg, x, F, hm, h => by
    cases x <;> try (simp [chk] at h; done)
    rename_i y s p
    cases s <;> try (simp [chk] at h; done)
    rename_i l u st p2
    cases l <;> try (simp [chk] at h; done)
    cases u <;> try (simp [chk] at h; done)
    cases st <;> try (simp [chk] at h; done)
    rename_i st
    obtain ⟨h1, h2⟩ := and2 (show (isMinus1 st && chk c (.v .read) tg a y) = true from h)
    have e : ∃ k p1 p2, st = .UnaryOp .USub (.Constant (.int 1) k p1) p2 := by
      unfold isMinus1 at h1
      split at h1
      · exact ⟨_, _, _, rfl⟩
      · cases h1
    obtain ⟨k, p1, p3, rfl⟩ := e
    exact good_of (n_rev (good_v (chk_ok a F (by simp) h2))) rfl hm
  | .bin o a b, X, W, c, m, tg, x, F, hm, h => by
    cases x <;> try (simp [chk] at h; done)
    rename_i y op z p
    obtain ⟨h0, h⟩ := and2 (show (opEq op o && (chk c (.v .read) tg a y && chk c (.v .read) tg b z)) = true from h)
    obtain ⟨h2, h3⟩ := and2 h
    rw [opEq_eq h0]
    exact good_of (n_bin (good_v (chk_ok a F (by simp) h2)) (good_v (chk_ok b F (by simp) h3))) rfl hm
  | .neg a, X, W, c, m, tg, x, F, hm, h => by
    cases x <;> try (simp [chk] at h; done)
    rename_i op y p
    cases op <;> try (simp [chk] at h; done)
    exact good_of (n_neg (good_v (chk_ok a F (by simp) (show chk c (.v .pure) tg a y = true from h)))) rfl hm
  | .not a, X, W, c, m, tg, x, F, hm, h => by
    cases x <;> try (simp [chk] at h; done)
    rename_i op y p
    cases op <;> try (simp [chk] at h; done)
    cases m with
    | t => exact nt_not (chk_ok a (m := .t) F (by simp) (show chk c .t tg a y = true from h))
    | v r => exact n_not (good_v (chk_ok a F (by simp) (show chk c (.v .read) tg a y = true from h)))
    | i r => exact pi_data (fun e => hm (by rw [e])) (n_not (good_v (chk_ok a F (by simp) (show chk c (.v .read) tg a y = true from h))))
  | .and a b, X, W, c, m, tg, x, F, hm, h => by
    cases x <;> try (simp [chk] at h; done)
    rename_i op vs p
    cases op <;> try (simp [chk] at h; done)
    match vs, h with
    | [], h => simp [chk] at h
    | [_], h => simp [chk] at h
    | y :: z :: r, h =>
      obtain ⟨h0, h⟩ := and2 (show (noOwn m && (!isI m && (chk c m tg a y && chk c m tg b (mkB .And (z :: r) p)))) = true from h)
      obtain ⟨hi, h⟩ := and2 h
      obtain ⟨h1, h2⟩ := and2 h
      have g1 := chk_ok (HB := HB) (pb := pb) a F hm h1
      have g2 := chk_ok (HB := HB) (pb := pb) b F hm h2
      cases m with
      | t => exact nt_and g1 g2
      | v r => exact n_and g1 g2 (noOwn_md h0)
      | i r => cases hi
  | .or a b, X, W, c, m, tg, x, F, hm, h => by
    cases x <;> try (simp [chk] at h; done)
    rename_i op vs p
    cases op <;> try (simp [chk] at h; done)
    match vs, h with
    | [], h => simp [chk] at h
    | [_], h => simp [chk] at h
    | y :: z :: r, h =>
      obtain ⟨h0, h⟩ := and2 (show (noOwn m && (!isI m && (chk c m tg a y && chk c m tg b (mkB .Or (z :: r) p)))) = true from h)
      obtain ⟨hi, h⟩ := and2 h
      obtain ⟨h1, h2⟩ := and2 h
      have g1 := chk_ok (HB := HB) (pb := pb) a F hm h1
      have g2 := chk_ok (HB := HB) (pb := pb) b F hm h2
      cases m with
      | t => exact nt_or g1 g2
      | v r => exact n_or g1 g2 (noOwn_md h0)
      | i r => cases hi
  | .cmp o a b, X, W, c, m, tg, x, F, hm, h => by
    cases x <;> try (simp [chk] at h; done)
    rename_i y ops zs p
    match ops, zs, h with
    | [], _, h => simp [chk] at h
    | [_], [], h => simp [chk] at h
    | [_], _ :: _ :: _, h => simp [chk] at h
    | _ :: _ :: _, _, h => simp [chk] at h
    | [op], [z], h =>
      obtain ⟨h0, h⟩ := and2 (show (nice z && (cpEq op o && (chk c (.v .read) tg a y && chk c (.v .read) tg b z))) = true from h)
      obtain ⟨h1, h⟩ := and2 h
      obtain ⟨h2, h3⟩ := and2 h
      rw [cpEq_eq h1]
      have g1 := good_v (chk_ok (HB := HB) (pb := pb) a F (by simp) h2)
      have g2 := good_v (chk_ok (HB := HB) (pb := pb) b F (by simp) h3)
      cases m with
      | t => exact nt_cmp F.rdy g1 g2 h0
      | v r => exact n_cmp F.rdy g1 g2 h0
      | i r => exact pi_data (fun e => hm (by rw [e])) (n_cmp F.rdy g1 g2 h0)
  | .chn o p a b e, X, W, c, m, tg, x, F, hm, h => by
    cases x <;> try (simp [chk] at h; done)
    rename_i y ops zs pp
    match ops, zs, h with
    | [], _, h => simp [chk] at h
    | [_], _, h => simp [chk] at h
    | [_, _], [], h => simp [chk] at h
    | [_, _], [_], h => simp [chk] at h
    | [_, _], _ :: _ :: _ :: _, h => simp [chk] at h
    | _ :: _ :: _ :: _, _, h => simp [chk] at h
    | [op, op'], [z, u], h =>
      obtain ⟨ht, h⟩ := and2 (show (!isT m && (nice u && (cpEq op o && (cpEq op' p && (chk c (.v .pure) tg a y && (chk c (.v .pure) tg b z && chk c (.v .pure) tg e u)))))) = true from h)
      obtain ⟨h0, h⟩ := and2 h
      obtain ⟨h1, h⟩ := and2 h
      obtain ⟨h2, h⟩ := and2 h
      obtain ⟨h3, h⟩ := and2 h
      obtain ⟨h4, h5⟩ := and2 h
      rw [cpEq_eq h1, cpEq_eq h2]
      have g1 := good_v (chk_ok (HB := HB) (pb := pb) a F (by simp) h3)
      have g2 := good_v (chk_ok (HB := HB) (pb := pb) b F (by simp) h4)
      have g3 := good_v (chk_ok (HB := HB) (pb := pb) e F (by simp) h5)
      cases m with
      | t => cases ht
      | v r => exact n_chn F.rdy g1 g2 g3 h0
      | i r => exact pi_data (fun e => hm (by rw [e])) (n_chn F.rdy g1 g2 g3 h0)
  | .ife e a b, X, W, c, m, tg, x, F, hm, h => by
    cases x <;> try (simp [chk] at h; done)
    rename_i z y u p
    obtain ⟨ht, h⟩ := and2 (show (!isT m && (chk c .t tg e z && (chk c (.v m.md) tg a y && chk c (.v m.md) tg b u))) = true from h)
    obtain ⟨h1, h⟩ := and2 h
    obtain ⟨h2, h3⟩ := and2 h
    have g1 := chk_ok (HB := HB) (pb := pb) e (m := .t) F (by simp) h1
    cases m with
    | t => cases ht
    | v r => exact n_ife g1 (good_v (chk_ok a F (by simp) h2)) (good_v (chk_ok b F (by simp) h3))
    | i r => exact pi_data (fun e => hm (by rw [e])) (n_ife g1 (good_v (chk_ok a F (by simp) h2)) (good_v (chk_ok b F (by simp) h3)))
  | .call n es, X, W, c, m, tg, x, F, hm, h => by
    cases x <;> try (simp [chk] at h; done)
    rename_i f xs kws p
    cases f <;> try (simp [chk] at h; done)
    cases kws <;> try (simp [chk] at h; done)
    rename_i n' p'
    obtain ⟨h0, h⟩ := and2 (show (noOwn m && (strEq n n' && (gloC c n && (nmC n && ((c.T.cals.any fun p => strEq p.1 n && decide (p.2 = es.len)) && (niceAll xs && chks c .pure es xs)))))) = true from h)
    obtain ⟨h1, h⟩ := and2 h
    obtain ⟨h2, h⟩ := and2 h
    obtain ⟨h3, h⟩ := and2 h
    obtain ⟨h4, h⟩ := and2 h
    obtain ⟨h5, h6⟩ := and2 h
    have e1 := strEq_eq h1
    subst e1
    obtain ⟨⟨q1, q2⟩, hq, h4⟩ := List.any_eq_true.mp h4
    obtain ⟨h7, h8⟩ := and2 h4
    have e2 := strEq_eq h7
    have e3 := of_decide_eq_true h8
    simp only at e2 e3
    subst e2 e3
    have C := F.cal _ _ hq
    have A := chks_ok (HB := HB) (pb := pb) es F h6
    refine good_of ?_ rfl hm
    cases xs with
    | nil =>
      cases es with
      | nil => exact n_call0 F.rdy F.tk (noOwn_md h0) C (F.glo h2) (nmC_ok h3).1
      | cons => simp [chks] at h6
    | cons y ys => exact n_call F.rdy F.tk (noOwn_md h0) C (F.glo h2) (nmC_ok h3).1 A h5 rfl
  | .isi a t, X, W, c, m, tg, x, F, hm, h => by
    cases x <;> try (simp [chk] at h; done)
    rename_i f xs kws p
    cases f <;> try (simp [chk] at h; done)
    cases kws <;> try (simp [chk] at h; done)
    rename_i n' p'
    match xs, h with
    | [], h => simp [chk] at h
    | [_], h => simp [chk] at h
    | _ :: _ :: _ :: _, h => simp [chk] at h
    | [y, z], h =>
      cases z <;> try (simp [chk] at h; done)
      rename_i n p2
      obtain ⟨h0, h⟩ := and2 (show (strEq n' "isinstance" && (bltC c "isinstance" && (isTyNm t n && (bltC c (tyNm t) && (nice y && chk c (.v .read) tg a y))))) = true from h)
      obtain ⟨h1, h⟩ := and2 h
      obtain ⟨h2, h⟩ := and2 h
      obtain ⟨h3, h⟩ := and2 h
      obtain ⟨h4, h5⟩ := and2 h
      rw [strEq_eq h0, strEq_eq (show strEq n (tyNm t) = true from h2)]
      exact good_of (n_isi (F.bl h1).1 (F.bl h1).2 (F.bl h3).1 (F.bl h3).2 (good_v (chk_ok a F (by simp) h5)) h4) rfl hm
  | .bi b es, X, W, c, m, tg, x, F, hm, h => by
    cases x <;> try (simp [chk] at h; done)
    rename_i f xs kws p
    cases f <;> try (simp [chk] at h; done)
    cases kws <;> try (simp [chk] at h; done)
    rename_i n' p'
    cases xs <;> try (simp [chk] at h; done)
    rename_i y ys
    obtain ⟨h0, h⟩ := and2 (show (strEq n' (biNm b) && (bltC c (biNm b) && (niceAll (y :: ys) && (notDict b && chks c .read es (y :: ys))))) = true from h)
    obtain ⟨h1, h⟩ := and2 h
    obtain ⟨h2, h⟩ := and2 h
    obtain ⟨h3, h4⟩ := and2 h
    rw [strEq_eq h0]
    exact good_of (n_bi F.rdy (by rintro rfl; cases h3) (F.bl h1).1 (F.bl h1).2 (chks_ok es F h4) h2) rfl hm
  | .lc x' t it cnd, X, W, c, m, tg, x, F, hm, h => by
    cases x <;> try (simp [chk] at h; done)
    rename_i elt gens s p
    match gens, h with
    | [], h => simp [chk] at h
    | _ :: _ :: _, h => simp [chk] at h
    | [⟨tg', iter, ifs, a⟩], h =>
      obtain ⟨ha, h⟩ := and2 (show (decide (a = 0) && (nice iter && (chk c (.i .read) tg' it iter && (ownC (tgOwn t tg') (fun own => blkC c.N c.sc s own) && (chkT (innerC c s) t tg' && (ifsC cnd ifs (fun y => chk (innerC c s) .t tg' cnd y) && chk (innerC c s) (.v .pure) tg' x' elt)))))) = true from h)
      obtain ⟨h0, h⟩ := and2 h
      obtain ⟨h1, h⟩ := and2 h
      obtain ⟨h2, h⟩ := and2 h
      obtain ⟨h3, h⟩ := and2 h
      obtain ⟨h4, h5⟩ := and2 h
      have ha := of_decide_eq_true ha
      subst ha
      cases ho : tgOwn t tg' with
      | none => rw [ho] at h2; cases h2
      | some own =>
        rw [ho] at h2
        have ok : BlkOk X.N X.env.scope s own := by rw [F.N, F.sc]; exact blkOk_by h2
        have G : ∀ (s' : Shared) (H : Hp) (C : Addr) (cl : List (Str × Addr)) (fp : List Addr), Fit (X.blk s' H s (compEnvC s cl C X.env) fp) ex W0 (innerC c s) := fun s' H C cl fp => F.inner ok.kind
        have hi := chk_ok (HB := HB) (pb := pb) it (m := .i .read) F (by simp) h1
        refine good_of (n_lc F.rdy ok hi (tgOwn_slots ho) (fun s' H C cl fp => chkT_ok (G s' H C cl fp) h3) (fun s' H C cl fp => ?_) (fun s' H C cl fp => good_v (chk_ok x' (G s' H C cl fp) (by simp) h5)) h0) rfl hm
        match ifs, h4 with
        | [], h4 => rw [omit_eq h4]; exact pts0
        | [y], h4 =>
          obtain ⟨h6, h7⟩ := and2 h4
          exact pts1 (chk_ok cnd (m := .t) (G s' H C cl fp) (by simp) h7) (omit_ne (not1 h6))
        | _ :: _ :: _, h4 => cases h4
  | .dc k v t it cnd, X, W, c, m, tg, x, F, hm, h => by
    cases x <;> try (simp [chk] at h; done)
    rename_i kx vx gens s p
    match gens, h with
    | [], h => simp [chk] at h
    | _ :: _ :: _, h => simp [chk] at h
    | [⟨tg', iter, ifs, a⟩], h =>
      obtain ⟨ha, h⟩ := and2 (show (decide (a = 0) && (nice iter && (chk c (.i .read) tg' it iter && (ownC (tgOwn t tg') (fun own => blkC c.N c.sc s own) && (chkT (innerC c s) t tg' && (ifsC cnd ifs (fun y => chk (innerC c s) .t tg' cnd y) && (chk (innerC c s) (.v .pure) tg' k kx && chk (innerC c s) (.v .pure) tg' v vx))))))) = true from h)
      obtain ⟨h0, h⟩ := and2 h
      obtain ⟨h1, h⟩ := and2 h
      obtain ⟨h2, h⟩ := and2 h
      obtain ⟨h3, h⟩ := and2 h
      obtain ⟨h4, h⟩ := and2 h
      obtain ⟨h5, h8⟩ := and2 h
      have ha := of_decide_eq_true ha
      subst ha
      cases ho : tgOwn t tg' with
      | none => rw [ho] at h2; cases h2
      | some own =>
        rw [ho] at h2
        have ok : BlkOk X.N X.env.scope s own := by rw [F.N, F.sc]; exact blkOk_by h2
        have G : ∀ (s' : Shared) (H : Hp) (C : Addr) (cl : List (Str × Addr)) (fp : List Addr), Fit (X.blk s' H s (compEnvC s cl C X.env) fp) ex W0 (innerC c s) := fun s' H C cl fp => F.inner ok.kind
        have hi := chk_ok (HB := HB) (pb := pb) it (m := .i .read) F (by simp) h1
        refine good_of (n_dc F.rdy ok hi (tgOwn_slots ho) (fun s' H C cl fp => ⟨chkT_ok (G s' H C cl fp) h3, ?_, good_v (chk_ok k (G s' H C cl fp) (by simp) h5), good_v (chk_ok v (G s' H C cl fp) (by simp) h8)⟩) h0) rfl hm
        match ifs, h4 with
        | [], h4 => rw [omit_eq h4]; exact pts0
        | [y], h4 =>
          obtain ⟨h6, h7⟩ := and2 h4
          exact pts1 (chk_ok cnd (m := .t) (G s' H C cl fp) (by simp) h7) (omit_ne (not1 h6))
        | _ :: _ :: _, h4 => cases h4
  | .rng lo hi, X, W, c, m, tg, x, F, hm, h => by
    cases x <;> try (simp [chk] at h; done)
    rename_i f xs kws p
    cases f <;> try (simp [chk] at h; done)
    cases kws <;> try (simp [chk] at h; done)
    rename_i n' p'
    match xs, h with
    | [], h => simp [chk] at h
    | _ :: _ :: _ :: _, h => simp [chk] at h
    | [y], h =>
      obtain ⟨hi', h⟩ := and2 (show (isI m && (strEq n' "range" && (bltC c "range" && (omitE lo && (!omitE hi && (nice y && chk c (.v .pure) tg hi y)))))) = true from h)
      obtain ⟨h0, h⟩ := and2 h
      obtain ⟨h1, h⟩ := and2 h
      obtain ⟨h2, h⟩ := and2 h
      obtain ⟨h3, h⟩ := and2 h
      obtain ⟨h4, h5⟩ := and2 h
      rw [strEq_eq h0, omit_eq h2]
      have g := good_v (chk_ok (HB := HB) (pb := pb) hi F (by simp) h5)
      cases m with
      | i r => exact pi_rng1 (F.bl h1).1 (F.bl h1).2 g h4 (omit_ne (not1 h3))
      | v r => cases hi'
      | t => cases hi'
    | [y, z], h =>
      obtain ⟨hi', h⟩ := and2 (show (isI m && (strEq n' "range" && (bltC c "range" && (!omitE lo && (!omitE hi && (nice y && (nice z && (chk c (.v .pure) tg lo y && chk c (.v .pure) tg hi z)))))))) = true from h)
      obtain ⟨h0, h⟩ := and2 h
      obtain ⟨h1, h⟩ := and2 h
      obtain ⟨h2, h⟩ := and2 h
      obtain ⟨h3, h⟩ := and2 h
      obtain ⟨h4, h⟩ := and2 h
      obtain ⟨h5, h⟩ := and2 h
      obtain ⟨h6, h7⟩ := and2 h
      rw [strEq_eq h0]
      have g := good_v (chk_ok (HB := HB) (pb := pb) lo F (by simp) h6)
      have g2 := good_v (chk_ok (HB := HB) (pb := pb) hi F (by simp) h7)
      cases m with
      | i r => exact pi_rng2 (F.bl h1).1 (F.bl h1).2 g g2 h4 h5 (omit_ne (not1 h2)) (omit_ne (not1 h3))
      | v r => cases hi'
      | t => cases hi'
  | .enm a, X, W, c, m, tg, x, F, hm, h => by
    cases x <;> try (simp [chk] at h; done)
    rename_i f xs kws p
    cases f <;> try (simp [chk] at h; done)
    cases kws <;> try (simp [chk] at h; done)
    rename_i n' p'
    match xs, h with
    | [], h => simp [chk] at h
    | _ :: _ :: _, h => simp [chk] at h
    | [y], h =>
      obtain ⟨hi', h⟩ := and2 (show (isI m && (noOwn m && (isTp tg && (strEq n' "enumerate" && (bltC c "enumerate" && (nice y && chk c (.v m.md) tg a y)))))) = true from h)
      obtain ⟨ho, h⟩ := and2 h
      obtain ⟨ht, h⟩ := and2 h
      obtain ⟨h0, h⟩ := and2 h
      obtain ⟨h1, h⟩ := and2 h
      obtain ⟨h2, h3⟩ := and2 h
      rw [strEq_eq h0]
      cases tg <;> try (cases ht; done)
      have g := good_v (chk_ok (HB := HB) (pb := pb) a F (by simp) h3)
      cases m with
      | i r => exact pi_enm (noOwn_md ho) (F.bl h1).1 (F.bl h1).2 g h2
      | v r => cases hi'
      | t => cases hi'
  | .pget i k, X, W, c, m, tg, x, F, hm, h => by
    cases x <;> try (simp [chk] at h; done)
    rename_i y z p
    cases y <;> try (simp [chk] at h; done)
    cases z <;> try (simp [chk] at h; done)
    rename_i n p1 v kk p2
    cases v <;> try (simp [chk] at h; done)
    rename_i j
    obtain ⟨h0, h⟩ := and2 (show (noOwn m && (varC c i n && decide (j = (k : Int)))) = true from h)
    obtain ⟨h1, h2⟩ := and2 h
    obtain ⟨h3, h⟩ := and2 (show (atC c i n && (visC c n && nmC n)) = true from h1)
    obtain ⟨h4, h5⟩ := and2 h
    have e := of_decide_eq_true h2
    subst e
    exact good_of (n_pget (noOwn_md h0) (F.at h3) (F.vis h4) (nmC_ok h5).1 (nmC_ok h5).2) rfl hm
  | .sset a, X, W, c, m, tg, x, F, hm, h => by
    cases x <;> try (simp [chk] at h; done)
    rename_i f xs kws p
    cases f <;> try (simp [chk] at h; done)
    cases kws <;> try (simp [chk] at h; done)
    rename_i n' p'
    match xs, h with
    | [], h => simp [chk] at h
    | _ :: _ :: _, h => simp [chk] at h
    | [z], h =>
      cases z <;> try (simp [chk] at h; done)
      rename_i f2 ys kws2 p2
      cases f2 <;> try (simp [chk] at h; done)
      cases kws2 <;> try (simp [chk] at h; done)
      rename_i n2 p3
      match ys, h with
      | [], h => simp [chk] at h
      | _ :: _ :: _, h => simp [chk] at h
      | [y], h =>
        obtain ⟨h0, h⟩ := and2 (show (strEq n' "sorted" && (bltC c "sorted" && (strEq n2 "set" && (bltC c "set" && (nice y && chk c (.v .read) tg a y))))) = true from h)
        obtain ⟨h1, h⟩ := and2 h
        obtain ⟨h2, h⟩ := and2 h
        obtain ⟨h3, h⟩ := and2 h
        obtain ⟨h4, h5⟩ := and2 h
        rw [strEq_eq h0, strEq_eq h2]
        exact good_of (n_sset F.rdy (F.bl h1).1 (F.bl h1).2 (F.bl h3).1 (F.bl h3).2 (good_v (chk_ok a F (by simp) h5)) h4) rfl hm
  | .zip _ _ _, X, W, c, m, tg, x, F, hm, h => by simp [chk] at h
  | .meth _ _ _, X, W, c, m, tg, x, F, hm, h => by simp [chk] at h
theorem chks_ok {ex : EX} {HB : Hp} {pb : Option Addr} : ∀ (es : Es) {X : Cx} {W : WX} {c : Cst} {r : Md} {xs : List Expr}, Fit X ex W c → chks c r es xs = true → PA X xs (tAr X.K X.w ex W HB pb r es)
  | .nil, X, W, c, r, xs, F, h => by
    cases xs with
    | nil => exact na_nil
    | cons => simp [chks] at h
  | .cons e es, X, W, c, r, xs, F, h => by
    cases xs with
    | nil => simp [chks] at h
    | cons x xs =>
      obtain ⟨h0, h⟩ := and2 (show (nice x && (chk c (.v r) (.Name "" ⟨0, 0, 0, 0⟩) e x && chks c r es xs)) = true from h)
      obtain ⟨h1, h2⟩ := and2 h
      exact na_cons (good_v (chk_ok e F (by simp) h1)) h0 (chks_ok es F h2)
end
end Ld
/-! text LdZa -/
set_option Elab.async false
set_option linter.all false
set_option maxRecDepth 100000
set_option maxHeartbeats 8000000
namespace Ld
open PySem PySem.Spec L2
open PyProof.Rows hiding St
variable [Fs]

/-! ### how stores go -/
def isStar : Expr → Bool
  | .Starred .. => true
  | _ => false
def namesC (kd : Str → Option NameKind) (line : Nat) (ts : List Expr) : List Str := ts.filterMap fun
    | .Name id pos => if kd id == some .local && pos.line == line then some id else none
    | _ => none
/-- how the stores of a tuple of names go -/
def swpR (kd : Str → Option NameKind) (ts vs : List Expr) : Option (Option (List Str)) :=
  if (!(ts.length == 2 || ts.length == 3) || vs.length != ts.length) = true then some none
  else if (vs.any isStar) = true then some none
  else if ((namesC kd ((ts.head?.map (·.pos.line)).getD 0) ts).length != ts.length || (namesC kd ((ts.head?.map (·.pos.line)).getD 0) ts).eraseDups.length != (namesC kd ((ts.head?.map (·.pos.line)).getD 0) ts).length) = true then some none
  else if (vs.all (foldedForSure 8)) = true then some none
  else if (vs.all (constantsAlone 8)) = true then none
  else some (some (namesC kd ((ts.head?.map (·.pos.line)).getD 0) ts))
theorem swp_ok {env : Env} {ts vs : List Expr} {k k2 : Nat} {p p2 : Pos} {r : Option (List Str)} (hk : env.scope.kind = .function) (h : swpR env.kindOf ts vs = some r) : swappedStores [.Tuple ts k p] (.Tuple vs k2 p2) env = pure r := by
  have hb : (env.blockKind != .function) = false := by unfold Env.blockKind; rw [hk]; rfl
  unfold swappedStores
  simp only [hb, Bool.or_false]
  unfold swpR at h
  split at h
  · rename_i q
    cases h
    rw [if_pos q]
  · rename_i q
    rw [if_neg q]
    split at h
    · rename_i q2
      cases h
      exact if_pos q2
    · rename_i q2
      refine (if_neg q2).trans ?_
      split at h
      · rename_i q3
        cases h
        exact if_pos q3
      · rename_i q3
        refine (if_neg q3).trans ?_
        split at h
        · rename_i q4
          cases h
          exact if_pos q4
        · rename_i q4
          refine (if_neg q4).trans ?_
          split at h
          · cases h
          · rename_i q5
            cases h
            exact if_neg q5
/-- no exchange of stores -/
def swpNo (c : Cst) (tg x : Expr) : Bool := match tg, x with
  | .Tuple ts _ _, .Tuple vs _ _ => (match swpR (kdOf c) ts vs with
    | some none => true
    | _ => false)
  | .List .., _ => false
  | .Starred .., _ => false
  | _, _ => true
theorem swpNo_ok {c : Cst} {env : Env} {tg x : Expr} (hs : env.scope = c.sc) (hk : c.sc.kind = .function) (h : swpNo c tg x = true) : swappedStores [tg] x env = pure none := by
  have hk' : env.scope.kind = .function := by rw [hs]; exact hk
  have kd : env.kindOf = kdOf c := by funext y; show env.scope.names.lookup y = _; rw [hs]; rfl
  cases tg <;> first | rfl | (cases h; done) | skip
  cases x <;> first | rfl | skip
  rename_i ts k p vs k2 p2
  have h : (match swpR (kdOf c) ts vs with | some none => true | _ => false) = true := h
  split at h
  · rename_i q
    exact swp_ok hk' (by rw [kd]; exact q)
  · cases h
def swB (kd : Str → Option NameKind) (y : Str) (py : Pos) (scope : Scope) (pos : Pos) : Bool :=
  (kd y == some .local && py.line == pos.line) && !(scope.names.any fun (n, k) => n == y && (k == .local || k == .cell))
theorem swB_ok {env : Env} {elt : Expr} {gs : List Comprehension} {scope : Scope} {pos py : Pos} {y : Str} {l : Nat} (hk : env.scope.kind = .function) : swapsWith (.ListComp elt gs scope pos) (some (.Name y py)) l env = pure (swB env.kindOf y py scope pos) := by
  have hb : (env.blockKind == .function) = true := by unfold Env.blockKind; rw [hk]; rfl
  unfold swapsWith
  simp only [hb, Expr.pos, Bool.true_and]
  rfl
/-- is a list comprehension stored by exchange? -/
def swL (c : Cst) (y : Str) (py : Pos) (x : Expr) : Bool := match x with
  | .ListComp _ _ s p => swB (kdOf c) y py s p
  | _ => false
def noC (x : Expr) : Bool := match x with
  | .SetComp .. => false
  | .DictComp .. => false
  | _ => true
theorem swL_no {c : Cst} {env : Env} {y : Str} {py : Pos} {x : Expr} {l : Nat} (hs : env.scope = c.sc) (hk : c.sc.kind = .function) (hx : noC x = true) (h : swL c y py x = false) : swapsWith x (some (.Name y py)) l env = pure false := by
  have hk' : env.scope.kind = .function := by rw [hs]; exact hk
  have kd : env.kindOf = kdOf c := by funext y; show env.scope.names.lookup y = _; rw [hs]; rfl
  cases x <;> first | rfl | (cases hx; done) | skip
  rename_i elt gs s p
  rw [swB_ok hk', kd]
  exact congrArg pure (show swB (kdOf c) y py s p = false from h)
/-! ### the checker of statements -/
def isRetN : E → Bool
  | .cst .none => true
  | _ => false
def sameLine (a b : Pos) : Bool := a.endLine == b.line
def swapL (c : Cst) (n : Str) (p : Pos) (x : Expr) (e : E) : Bool := match swL c n p x, e with
  | true, .lc .. => isLoc c n
  | true, _ => false
  | false, _ => true
def isPar2 (c : Cst) (tg x : Expr) : Bool := match tg, x with
  | .Tuple [.Name a pa, .Name b pb] _ _, .Tuple [u, v] _ _ => (match swpR (kdOf c) [.Name a pa, .Name b pb] [u, v] with
    | some (some [a', b']) => strEq a a' && (strEq b b' && (isLoc c a && (isLoc c b && (nice u && (nice v && !strEq a b)))))
    | _ => false)
  | _, _ => false
def par2 (t : Tg) (e : E) : Option (Nat × Nat × E × E) := match t, e with
  | .tp (.cons (.nm i) (.cons (.nm j) .nil)), .tup (.cons a (.cons b .nil)) => some (i, j, a, b)
  | _, _ => none
/-- one statement in a try's body -/
def chkOne (c : Cst) : S → Stmt → Bool
  | .ret e, st => (match st with
    | .Return (some x) _ => chk c (.v .pure) x e x
    | _ => false)
  | .expr e, st => (match st with
    | .Expr x _ => noComp x && chk c (.v .read) x e x
    | _ => false)
  | .asg t e, st => (match st with
    | .Assign [tg] x _ => noComp x && (nice tg && (chkT c t tg && (chk c (.v .pure) x e x && swpNo c tg x)))
    | _ => false)
  | .own i e, st => (match st with
    | .Assign [.Name n p] x _ => atC c i n && (stoC c n && (noC x && (!swL c n p x && chk c (.v .own) x e x)))
    | _ => false)
  | _, _ => false
mutual
/-- an expression of an except suite, n the error's name -/
def chkX (c : Cst) (n : Str) (fn : List Str) (ib : List (Str × Bool)) : XV → Expr → Bool
  | .cst d, x => cstC d x
  | .fld f, x => (match x with
    | .Attribute (.Name m _) f' _ => strEq m n && (strEq f' f && fn.any (strEq f))
    | _ => false)
  | .isB b v, x => (match x with
    | .Call (.Name g _) [.Name m _, .Name b' _] [] _ => strEq g "isinstance" && (bltC c "isinstance" && (strEq m n && (strEq b' b && (bltC c b && ib.any fun p => strEq p.1 b && p.2 == v))))
    | _ => false)
  | .ife a u v, x => (match x with
    | .IfExp z y w _ => tstv z && (chkX c n fn ib a z && (chkX c n fn ib u y && chkX c n fn ib v w))
    | _ => false)
  | .tup xs, x => (match x with
    | .Tuple es _ _ => decide (es.length ≤ 1000) && chkXs c n fn ib xs es
    | _ => false)
  | .lst xs, x => (match x with
    | .List es _ => decide (es.length ≤ 1000) && chkXs c n fn ib xs es
    | _ => false)
def chkXs (c : Cst) (n : Str) (fn : List Str) (ib : List (Str × Bool)) : XVs → List Expr → Bool
  | .nil, [] => true
  | .cons x r, e :: es => nice e && (chkX c n fn ib x e && chkXs c n fn ib r es)
  | _, _ => false
end
def chkH (c : Cst) (n : Str) (fn : List Str) (ib : List (Str × Bool)) : Hd → Stmt → Bool
  | .ret x, st => (match st with
    | .Return (some e) _ => chkX c n fn ib x e
    | _ => false)
  | .asg j x, st => (match st with
    | .Assign [.Name m _] e _ => atC c j m && (stoC c m && (noComp e && chkX c n fn ib x e))
    | _ => false)
def strsEq : List Str → List Str → Bool
  | [], [] => true
  | a :: r, b :: t => strEq a b && strsEq r t
  | _, _ => false
mutual
def chkS (c : Cst) : S → Stmt → Bool
  | .pass, st => (match st with
    | .Pass _ => true
    | .Expr (.Constant (.str _) _ _) _ => true
    | _ => false)
  | .brk, st => (match st with
    | .Break _ => true
    | _ => false)
  | .cont, st => (match st with
    | .Continue _ => true
    | _ => false)
  | .ret e, st => (match st with
    | .Return (some x) _ => chk c (.v .pure) x e x
    | .Return none _ => isRetN e
    | _ => false)
  | .expr e, st => (match st with
    | .Expr x _ => noComp x && chk c (.v .read) x e x
    | _ => false)
  | .asg t e, st => (match st with
    | .Assign [tg] x _ => noComp x && (nice tg && (chkT c t tg && (chk c (.v .pure) x e x && (swpNo c tg x || isPar2 c tg x))))
    | _ => false)
  | .own i e, st => (match st with
    | .Assign [.Name n p] x _ => atC c i n && (stoC c n && (noC x && (swapL c n p x e && chk c (.v .own) x e x)))
    | _ => false)
  | .app i e, st => (match st with
    | .Expr (.Call (.Attribute (.Name n _) a ap) [y] [] cp) _ => strEq a "append" && (varC c i n && (nice y && (sameLine ap cp && chk c (.v .pure) y e y)))
    | _ => false)
  | .ext i e, st => (match st with
    | .Expr (.Call (.Attribute (.Name n _) a ap) [y] [] cp) _ => strEq a "extend" && (varC c i n && (nice y && (sameLine ap cp && chk c (.v .read) y e y)))
    | _ => false)
  | .aug i e, st => (match st with
    | .AugAssign (.Name n _) .Add x _ => atC c i n && (stoC c n && chk c (.v .pure) x e x)
    | _ => false)
  | .pen1 i e, st => (match st with
    | .Assign [.Subscript (.Name n _) (.Constant (.int j) _ _) _] x _ => varC c i n && (decide (j = 1) && (noComp x && chk c (.v .pure) x e x))
    | _ => false)
  | .pen2 i e, st => (match st with
    | .Assign [.Subscript (.Name n _) (.Constant (.int j) _ _) _] x _ => varC c i n && (decide (j = 2) && (noComp x && chk c (.v .pure) x e x))
    | _ => false)
  | .put i k e, st => (match st with
    | .Assign [.Subscript (.Name n _) y _] x _ => varC c i n && (nice y && (noComp x && (chk c (.v .pure) y k y && chk c (.v .pure) x e x)))
    | _ => false)
  | .mkpen e, st => (match st with
    | .Return (some (.List [x, .Constant (.int j) _ _, .Constant (.int k) _ _] _)) _ => decide (j = 0) && (decide (k = 0) && (nice x && chk c (.v .pure) x e x))
    | _ => false)
  | .ife e a b, st => (match st with
    | .If x as bs _ => chk c .t x e x && (chkSs c a as && chkSs c b bs)
    | _ => false)
  | .loop t it b, st => (match st with
    | .For tg iter body [] _ => nice iter && (chk c (.i .pure) tg it iter && (chkT c t tg && chkSs c b body))
    | _ => false)
  | .while _ e b, st => (match st with
    | .While x body [] _ => chk c .t x e x && chkSs c b body
    | _ => false)
  | .raise k fn es, st => (match st with
    | .Raise (some (.Call (.Name x _) (y :: ys) [] _)) none _ => gloC c x && (nmC x && ((c.T.excs.any fun p => strEq p.1 x && (decide (p.2.1 = k) && strsEq p.2.2.1 fn)) && (niceAll (y :: ys) && (chks c .pure es (y :: ys) && (decide (es.len = fn.length) && decide (es.len ≤ 1000))))))
    | _ => false)
  | .try_ s k i h, st => (match st with
    | .Try [b] [.ExceptHandler (some (.Name x _)) (some n) [hs] _] [] [] _ => gloC c x && (nmC x && (atC c i n && (isLoc c n && (nmC n && (chkOne c s b && c.T.excs.any fun p => strEq p.1 x && (decide (p.2.1 = k) && chkH c n p.2.2.1 p.2.2.2 h hs))))))
    | _ => false)
  | _, _ => false
def chkSs (c : Cst) : Ss → List Stmt → Bool
  | .nil, [] => true
  | .cons (.frz _) r, sts => chkSs c r sts
  | .cons s r, st :: sts => chkS c s st && chkSs c r sts
  | _, _ => false
end
end Ld
/-! text LdZb -/
set_option Elab.async false
set_option linter.all false
set_option maxRecDepth 100000
set_option maxHeartbeats 8000000
namespace Ld
open PySem PySem.Spec L2
open PyProof.Rows hiding St
variable [Fs]
section
variable {X : Cx} {ex : EX} {W : WX} {HB : Hp} {pb : Option Addr} {r : Md} {σ σ1 : St} {H H1 : Hp} {pa : Option Addr} {g : G} {δ : Env'} {D : Ends} {L : List Nat} {c : Cst}
/-- arguments ahead of a statement -/
theorem sArgs {r1 : Md} {es : Es} {f : List DV → M Fl} (S : StOk X.K X.w HB pb σ H pa δ g) (p : postS X.K X.w ex W HB pb L σ H (bnd (evs r1.b es δ) f g) D) :
    tAr X.K X.w ex W HB pb r1 es σ H fun vs H1 => ∃ xs g1 p1, StOk X.K X.w HB pb σ H1 p1 δ g1 ∧ xs.length = es.len ∧ DvAll r1 X.K X.w H1 p1 xs vs ∧ postS X.K X.w ex W HB pb L σ H1 (f xs g1) D := by
  refine ⟨δ, g, pa, S, ?_⟩
  unfold bnd at p
  cases q : evs r1.b es δ g with
  | ok xs g' =>
    rw [q] at p
    exact fun H' pa' st vs dv => ⟨xs, g', pa', S.step st, evs_len q, dv, postS_step ⟨st.kp, fun _ _ => rfl⟩ p⟩
  | exc c fs g' =>
    rw [q] at p
    exact fun C d H' pa' st hx => p C d σ H' pa' δ (S.step st) hx
  | no => rw [q] at p; exact p.elim
theorem s_datas : ∀ {xs : List DV} {f : List PyData → M Fl}, postS X.K X.w ex W HB pb L σ H (bnd (datas xs) f g) D → ∃ ds, xs = ds.map .d ∧ postS X.K X.w ex W HB pb L σ H (f ds g) D
  | [], _, h => ⟨[], rfl, h⟩
  | .pen :: _, _, h => h.elim
  | .d x :: xs, f, h => by
    have e : bnd (datas (.d x :: xs)) f = bnd (datas xs) (fun ds => f (x :: ds)) := by
      show bnd (bnd (datas xs) fun ys => rt (x :: ys)) f = _
      rw [bnd_assoc]
      rfl
    rw [e] at h
    obtain ⟨ds, rfl, h3⟩ := s_datas h
    exact ⟨x :: ds, rfl, h3⟩
theorem n_par2 (F : Fit X ex W c) {i j : Nat} {a b : E} {x y : Str} {u v : Expr} {px py pt pt2 pos : Pos} {kt k2 : Nat} (hi : X.N[i]? = some x) (hj : X.N[j]? = some y) (hij : i ≠ j) (hx : X.env.scope.names.lookup x = some .local) (hy : X.env.scope.names.lookup y = some .local)
    (hu : PE X u (TX X ex W HB pb .pure a)) (hv : PE X v (TX X ex W HB pb .pure b)) (nu : nice u = true) (nv : nice v = true) (hw : swappedStores [.Tuple [.Name x px, .Name y py] kt pt] (.Tuple [u, v] k2 pt2) X.env = pure (some [x, y])) :
    PS X (.Assign [.Tuple [.Name x px, .Name y py] kt pt] (.Tuple [u, v] k2 pt2) pos) (tS X.K X.w ex W HB pb L (.asg (.tp (.cons (.nm i) (.cons (.nm j) .nil))) (.tup (.cons a (.cons b .nil))))) := by
  have A : PA X [u, v] (tAr X.K X.w ex W HB pb .pure (.cons a (.cons b .nil))) := na_cons hu nu (na_cons hv nv na_nil)
  refine ps_mono (ps_par F.rdy.calm F.rdy.nd hi hj hij hx hy A hw) fun D σ H h => ?_
  obtain ⟨δ, g, pa, S, p⟩ := h
  simp only [evS] at p
  obtain ⟨fr, p⟩ := s_grd p
  have fr := free_mem fr
  have p : postS X.K X.w ex W HB pb L σ H (bnd (evs Md.pure.b (.cons a (.cons b .nil)) δ) (fun xs => bnd (datas xs) fun ds => bnd (ofO (asgT (.tp (.cons (.nm i) (.cons (.nm j) .nil))) (.tuple ds) δ)) fun δ' => rt (Fl.nx δ')) g) D := by
    have e : ∀ (f : DV → M Fl), bnd (ev false (.tup (.cons a (.cons b .nil))) δ) f = bnd (evs Md.pure.b (.cons a (.cons b .nil)) δ) fun xs => bnd (datas xs) fun ds => f (.d (.tuple ds)) := fun f => by
      show bnd (bnd (evs false _ δ) fun xs => bnd (datas xs) fun ds => rt (.d (.tuple ds))) f = _
      rw [bnd_assoc]
      congr 1
      funext xs
      rw [bnd_assoc]
      rfl
    rw [e] at p
    exact p
  obtain ⟨δ1, g1, p1, S1, q⟩ := sArgs (r1 := .pure) S p
  refine ⟨δ1, g1, p1, S1, postG_mono q fun xs _ H1 p2 hh vs dv => ?_⟩
  obtain ⟨xs, g2, p2, S2, el, dv, p⟩ := hh vs dv
  obtain ⟨ds, rfl, p'⟩ := s_datas p
  obtain ⟨δ', hA, p2'⟩ := s_ofO p'
  have hA : asgTs (.cons (.nm i) (.cons (.nm j) .nil)) ds δ = some δ' := hA
  obtain ⟨hl, v1, r1, rfl, v2, r2, rfl, rfl, q⟩ := asgTs_ok hA S2 (all_rp dv) (Q := D.nx) fun σ' S' _ ek => p2' σ' H1 p2 S' ⟨Kp.refl _, fun k hk => ek k (fr k hk)⟩
  exact ⟨v1, v2, rfl, q⟩
/-- the parts of a list comprehension -/
theorem lc_parts (F : Fit X ex W c) {m : Kd} {tg x : Expr} {x' it cnd : E} {t : Tg} (h : chk c m tg (.lc x' t it cnd) x = true) : ∃ elt tg' iter ifs s p own, x = .ListComp elt [⟨tg', iter, ifs, 0⟩] s p ∧ BlkOk X.N X.env.scope s own ∧ PI X tg' iter (tI X.K X.w ex W HB pb .read it) ∧ own.map (·.2) = t.slots ∧
    (∀ (s' : Shared) (H : Hp) (C : Addr) (cl : List (Str × Addr)) (fp : List Addr), PG (X.blk s' H s (compEnvC s cl C X.env) fp) tg' (gT X.K t)) ∧ (∀ (s' : Shared) (H : Hp) (C : Addr) (cl : List (Str × Addr)) (fp : List Addr), PTs (X.blk s' H s (compEnvC s cl C X.env) fp) ifs (tC1 X.K X.w ex W0 HB pb cnd)) ∧
    (∀ (s' : Shared) (H : Hp) (C : Addr) (cl : List (Str × Addr)) (fp : List Addr), PE (X.blk s' H s (compEnvC s cl C X.env) fp) elt (tE X.K X.w ex W0 HB pb .pure x')) ∧ nice iter = true := by
  cases x <;> try (simp [chk] at h; done)
  rename_i elt gens s p
  match gens, h with
  | [], h => simp [chk] at h
  | _ :: _ :: _, h => simp [chk] at h
  | [⟨tg', iter, ifs, a⟩], h =>
    obtain ⟨ha, h⟩ := and2 (show (decide (a = 0) && (nice iter && (chk c (.i .read) tg' it iter && (ownC (tgOwn t tg') (fun own => blkC c.N c.sc s own) && (chkT (innerC c s) t tg' && (ifsC cnd ifs (fun y => chk (innerC c s) .t tg' cnd y) && chk (innerC c s) (.v .pure) tg' x' elt)))))) = true from h)
    obtain ⟨h0, h⟩ := and2 h
    obtain ⟨h1, h⟩ := and2 h
    obtain ⟨h2, h⟩ := and2 h
    obtain ⟨h3, h⟩ := and2 h
    obtain ⟨h4, h5⟩ := and2 h
    have ha := of_decide_eq_true ha
    subst ha
    cases ho : tgOwn t tg' with
    | none => rw [ho] at h2; cases h2
    | some own =>
      rw [ho] at h2
      have ok : BlkOk X.N X.env.scope s own := by rw [F.N, F.sc]; exact blkOk_by h2
      have G : ∀ (s' : Shared) (H : Hp) (C : Addr) (cl : List (Str × Addr)) (fp : List Addr), Fit (X.blk s' H s (compEnvC s cl C X.env) fp) ex W0 (innerC c s) := fun s' H C cl fp => F.inner ok.kind
      refine ⟨elt, tg', iter, ifs, s, p, own, rfl, ok, chk_ok it (m := .i .read) F (by simp) h1, tgOwn_slots ho, fun s' H C cl fp => chkT_ok (G s' H C cl fp) h3, fun s' H C cl fp => ?_, fun s' H C cl fp => good_v (chk_ok x' (G s' H C cl fp) (by simp) h5), h0⟩
      match ifs, h4 with
      | [], h4 => rw [omit_eq h4]; exact pts0
      | [y], h4 =>
        obtain ⟨h6, h7⟩ := and2 h4
        exact pts1 (chk_ok cnd (m := .t) (G s' H C cl fp) (by simp) h7) (omit_ne (not1 h6))
      | _ :: _ :: _, h4 => cases h4
end
end Ld
/-! text LxA -/
set_option Elab.async false
set_option linter.all false
set_option maxRecDepth 100000
set_option maxHeartbeats 8000000
namespace Ld
open PySem PySem.Spec L2
open PyProof.Rows hiding St
variable [Fs]
section
variable {X : Cx} {ex : EX} {W : WX} {HB : Hp} {pb : Option Addr} {r : Md} {σ σ1 : St} {H H1 : Hp} {pa : Option Addr} {g : G} {δ : Env'} {D : Ends} {L : List Nat}
/-! ### raise C(e, ..) -/
theorem zip_rp {K : PySem.W.Frag} {w : World} {H : Hp} : ∀ {fn : List Str} {ds : List PyData} {vs : List V}, RpA K w H ds vs → ∀ f x, (fn.zip ds).lookup f = some x → ∃ v, (fn.zip vs).lookup f = some v ∧ Rp K w H x v
  | [], ds, vs, _, f, x, h => by simp at h
  | _ :: _, _, _, .nil, f, x, h => by simp at h
  | n :: fn, d :: ds, v :: vs, .cons a r, f, x, h => by
    rw [List.zip_cons_cons, List.lookup_cons] at h ⊢
    cases q : (f == n) with
    | true =>
      rw [q] at h
      cases h
      exact ⟨v, rfl, a⟩
    | false =>
      rw [q] at h
      exact zip_rp r f x h
theorem n_raise {x : Str} {c : Nat} {fn : List Str} {ib : List (Str × Bool)} {es : Es} {e : Expr} {xs : List Expr} {p pos pos2 : Pos} (R : Rdy X) (tk : Takes X W) (E : XCal X ex x c fn ib) (hg : Gl X x) (hd : (x == ("__debug__" : Str)) = false)
    (ha : PA X (e :: xs) (tAr X.K X.w ex W HB pb .pure es)) (hx : niceAll (e :: xs) = true) (hl : es.len = fn.length) (hl2 : es.len ≤ 1000) :
    PS X (.Raise (some (.Call (.Name x p) (e :: xs) [] pos)) none pos2) (tS X.K X.w ex W HB pb L (.raise c fn es)) := by
  obtain ⟨C, k, fI, fd, ps, T, M, room⟩ := E.at_
  have hx' : (nice e && niceAll xs) = true := hx
  rw [Bool.and_eq_true] at hx'
  refine ps_mono (ps_raise R.calm tk (pmk_oex (CX := L2.CX X.prog X.w) M.oex M.ini M.ty M.fn room M.bd .nil passL hg T.mg ha hd (nice_star hx'.1 xs _) (nice_backs hx'.2))) fun D σ H h => ?_
  obtain ⟨δ, g, pa, S, p⟩ := h
  simp only [evS] at p
  obtain ⟨δ1, g1, p1, S1, q⟩ := sArgs (r1 := .pure) S p
  refine ⟨δ1, g1, p1, S1, postG_mono q fun ys _ H1 p2 hh vs dv => ?_⟩
  obtain ⟨ys, g2, p2, S2, el, dv, p⟩ := hh vs dv
  obtain ⟨ds, rfl, p'⟩ := s_datas p
  have ra := all_rp dv
  rw [List.length_map] at el
  have hlen : vs.length = fn.length := by rw [← ra.length, el, hl]
  refine ⟨by omega, fun a na => ⟨a, vs, by rw [List.append_nil], hlen, upd_same, fun d gs nd hda hgs => ⟨rfl, d, gs, upd_same, ?_, ?_, ?_⟩⟩⟩
  · rw [upd_ne hda, upd_same]
  · rw [upd_ne hda] at nd
    exact nd
  · have nd1 : H1 d = none := by rw [upd_ne hda] at nd; exact nd
    have e1 : upd (del (upd (upd (upd H1 a (exo a C none)) d (exd d gs)) a (exo a C (some d))) a) d (.xd gs) = upd H1 d (.xd gs) := by
      funext b
      by_cases h1 : b = d
      · subst h1; rw [upd_same, upd_same]
      · rw [upd_ne h1, upd_ne h1]
        by_cases h2 : b = a
        · subst h2; rw [del_same, na]
        · rw [del_ne h2, upd_ne h2, upd_ne h1, upd_ne h2]
    rw [e1]
    have st : Stp X.K X.w H1 p2 (upd H1 d (.xd gs)) p2 g2 := Stp.new S2.pen nd1
    refine p' (.ref C) (some d) σ _ p2 δ (S2.step st) (T.is.mpr ⟨rfl, d, gs, rfl, upd_same, fun f y hf => ?_⟩)
    obtain ⟨v, h1, h2⟩ := zip_rp ra f y hf
    exact ⟨v, hgs f v h1, h2.kp st.kp⟩
end
end Ld
/-! text LxB -/
set_option Elab.async false
set_option linter.all false
set_option maxRecDepth 100000
set_option maxHeartbeats 8000000
namespace Ld
open PySem PySem.Spec L2
open PyProof.Rows hiding St
variable [Fs]

/-! ### an except suite -/
/-- what an expression of a suite tells: the error stands in slot i -/
def tX (K : PySem.W.Frag) (w : World) (HB : Hp) (pb : Option Addr) (a : Addr) (d : Option Addr) (i : Nat) (fs : List (Str × PyData)) (x : XV) : TE := fun σ H Q => ∃ δ g pa, StOk K w HB pb σ H pa δ g ∧ σ[i]? = some (some (.ref a)) ∧ exD K w fs H d ∧
  ∃ y, evX fs x = some y ∧ ∀ v H' p', Stp K w H pa H' p' g → Rp K w H' y v → Q v H'
def tXs (K : PySem.W.Frag) (w : World) (HB : Hp) (pb : Option Addr) (a : Addr) (d : Option Addr) (i : Nat) (fs : List (Str × PyData)) (xs : XVs) : TA := fun σ H Q => ∃ δ g pa, StOk K w HB pb σ H pa δ g ∧ σ[i]? = some (some (.ref a)) ∧ exD K w fs H d ∧
  ∃ ys, evXs fs xs = some ys ∧ ∀ vs H' p', Stp K w H pa H' p' g → RpA K w H' ys vs → Q vs H'
section
variable {X : Cx} {a : Addr} {oe : Obj} {pn : List (Addr × Obj)} {HB : Hp} {pb : Option Addr} {d : Option Addr} {i : Nat} {fs : List (Str × PyData)} {n : Str}
/-- the error's name is read -/
theorem x_var {p : Pos} (hN : X.N[i]? = some n) (hv : Vis X.env.scope n) (hd : (n == ("__debug__" : Str)) = false) (hcd : (n == ("__classdict__" : Str)) = false) : PE (X.suite a ((a, oe) :: pn)) (.Name n p) (tVar i) := pe_var (X := X.suite a ((a, oe) :: pn)) hN hv hd hcd
theorem x_cst {y : PyData} {x : Expr} {k : Nat} {pos : Pos} (h : cstE y k pos = some x) : PE (X.suite a ((a, oe) :: pn)) x (tX X.K X.w HB pb a d i fs (.cst y)) := by
  have key : ∀ v, (∀ H, Rp X.K X.w H y v) → ∀ (σ : St) (H : Hp) (Q : VK), tX X.K X.w HB pb a d i fs (.cst y) σ H Q → Q v H := fun v hv σ H Q h => by
    obtain ⟨δ, g, pa, S, _, _, z, hz, q⟩ := h
    have e : some y = some z := hz
    cases e
    exact q v H pa (Stp.refl S.pen) (hv H)
  cases y <;> cases h
  · exact pe_mono pe_non fun σ H Q h => key _ (fun _ => .none) σ H Q h
  · exact pe_mono pe_bl fun σ H Q h => key _ (fun _ => .bool _) σ H Q h
  · exact pe_mono pe_int fun σ H Q h => key _ (fun _ => .int _) σ H Q h
  · exact pe_mono pe_str fun σ H Q h => key _ (fun _ => .str _) σ H Q h
theorem x_fld {f : Str} {C : Addr} {p pos : Pos} (T : XfC X.K C) (hno : PySem.W.findIn X.K (.ref C) f = some none) (hz : Zc (.ref C) d oe) (hf : ∃ vs, oe.data = .fields vs) (hN : X.N[i]? = some n) (hv : Vis X.env.scope n) (hd : (n == ("__debug__" : Str)) = false) (hcd : (n == ("__classdict__" : Str)) = false)
    (hb : attributeBase (.Name n p) f X.env (eval (.Name n p) X.env) = eval (.Name n p) X.env) : PE (X.suite a ((a, oe) :: pn)) (.Attribute (.Name n p) f pos) (tX X.K X.w HB pb a d i fs (.fld f)) := by
  refine pe_mono (pe_xf T hno hz hf (x_var hN hv hd hcd) hb) fun σ H Q h => ?_
  obtain ⟨δ, g, pa, S, hs, hx, y, hy, q⟩ := h
  obtain ⟨dx, gs, rfl, h1, h2⟩ := hx
  obtain ⟨v, l, rp⟩ := h2 f y hy
  exact ⟨_, hs, rfl, rfl, dx, gs, v, rfl, h1, l, q v H pa (Stp.refl S.pen) rp⟩
/-- isinstance of the caught error -/
theorem x_isC {C : Addr} {T : String} {v : Bool} (hcl : (PySem.W.clsIn X.K C).isSome = true) (T0 : XfC X.K C) (ha : PySem.W.findIn X.K (.ref C) "__class__" = some (some (.builtin "object.__class__"))) (hn : PySem.W.specialIn X.K (.builtin "object.__class__") "__get__" = some (some (.builtin "getset_descriptor.__get__")))
    (htk : PySem.W.takesIn X.K (.builtin "object.__class__") = some true) (hm : PySem.W.mroIn X.K C (.type "object") = some true) (hk : PySem.W.kitOne X.K (.ref C) (.type T) = some v) (hz : Zc (.ref C) d oe) (hf : ∃ vs, oe.data = .fields vs) (hd : ∀ dd, d = some dd → True) :
    CallR (X.suite a ((a, oe) :: pn)) (.builtin "isinstance") (fun xs H Q => xs = [.ref a, .ty T] ∧ (∃ dx gs, d = some dx ∧ H dx = some (.xd gs)) ∧ Q (.bl v) H) := by
  intro pins s σ H xs us Q I r h
  obtain ⟨rfl, ⟨dx, gs, rfl, hx⟩, q⟩ := h
  cases r with
  | cons rx rr =>
    cases rr with
    | cons rt rr =>
      cases rr
      cases rx
      have ec := show _ = Value.type T from rt
      subst ec
      obtain ⟨hget, _⟩ := I.pin (a, oe) (List.mem_append.mpr (.inl List.mem_cons_self))
      obtain ⟨vs, hv⟩ := hf
      have hx' : ObjOk X.prog X.w H s.heap dx (.xd gs) := I.hok dx _ hx
      obtain ⟨mA, hns, hr⟩ := hx'
      obtain ⟨od, ho, hl⟩ := lookIn_ns hns
      have J : PySem.W.InstAt s.heap a oe C (some od) := ⟨hget, hz.1, by unfold PySem.W.notCls; rw [hv] <;> rfl, by rw [hz.2]; exact ho⟩
      exact PySem.W.kia_one (PySem.W.kitx_exc hcl T0.ga T0.gg T0.exC ha hn htk hm) I.kIn J hk (fun z => nomatch z) fun tk => ⟨.bl v, H, I.kept (t' := tk) fun _ _ z => z, rfl, q⟩
theorem x_isB {ex : EX} {x : Str} {c : Nat} {fn : List Str} {ib : List (Str × Bool)} {C : Addr} {b : Str} {v : Bool} {p p2 p3 pos : Pos} (T : ExRd X.K X.mg ex x c fn ib X.w C) (hb : (b, v) ∈ ib) (hg : Gl X "isinstance") (hm : X.mg "isinstance" = none) (hg2 : Gl X b) (hm2 : X.mg b = none)
    (hz : Zc (.ref C) d oe) (hf : ∃ vs, oe.data = .fields vs) (hN : X.N[i]? = some n) (hv : Vis X.env.scope n) (hd : (n == ("__debug__" : Str)) = false) (hcd : (n == ("__classdict__" : Str)) = false) :
    PE (X.suite a ((a, oe) :: pn)) (.Call (.Name "isinstance" p) [.Name n p2, .Name b p3] [] pos) (tX X.K X.w HB pb a d i fs (.isB b v)) := by
  obtain ⟨t, ht, hk⟩ := T.ib b v hb
  obtain ⟨b1, b2, b3⟩ := excNm_boot ht
  have hT : PE (X.suite a ((a, oe) :: pn)) (.Name b p3) (tC (.ty t)) := pe_bltn (X := X.suite a ((a, oe) :: pn)) hg2 hm2 b1 rfl b2 b3
  refine pe_mono (pe_callB (X := X.suite a ((a, oe) :: pn)) (x_isC T.cl T.xf T.ca T.cn T.ct T.cm hk hz hf (fun _ _ => trivial)) hg hm PyProof.Rows.boot_isinstance (pa_cons (x_var hN hv hd hcd) (pa_cons hT pa_nil rfl) rfl) (by decide) (by decide) rfl rfl) fun σ H Q h => ?_
  obtain ⟨δ, g, pa, S, hs, hx, y, hy, q⟩ := h
  have e : some (PyData.bool v) = some y := hy
  cases e
  obtain ⟨dx, gs, rfl, h1, h2⟩ := hx
  exact ⟨_, hs, rfl, ⟨dx, gs, rfl, h1⟩, q _ H pa (Stp.refl S.pen) (.bool v)⟩
theorem x_ife {c x y : XV} {ce xe ye : Expr} {pos : Pos} (hc : PE (X.suite a ((a, oe) :: pn)) ce (tX X.K X.w HB pb a d i fs c)) (ht : tstv ce = true) (hx : PE (X.suite a ((a, oe) :: pn)) xe (tX X.K X.w HB pb a d i fs x)) (hy : PE (X.suite a ((a, oe) :: pn)) ye (tX X.K X.w HB pb a d i fs y)) :
    PE (X.suite a ((a, oe) :: pn)) (.IfExp ce xe ye pos) (tX X.K X.w HB pb a d i fs (.ife c x y)) := by
  refine pe_mono (pe_ifExp (pt_val hc (tstv_eq ht _)) hx hy) fun σ H Q h => ?_
  obtain ⟨δ, g, pa, S, hs, hd, z, hz, q⟩ := h
  simp only [evX] at hz
  cases e : evX fs c with
  | none => rw [e] at hz; cases hz
  | some k =>
    rw [e] at hz
    cases k <;> try (cases hz; done)
    rename_i k
    refine ⟨δ, g, pa, S, hs, hd, _, e, fun v H1 p1 st rp => ?_⟩
    cases rp
    refine ⟨k, rfl, ?_⟩
    have hd' := hd.step S.pen st
    cases k with
    | true => exact ⟨δ, g, p1, S.step st, hs, hd', z, hz, fun v H2 p2 st2 rp => q v H2 p2 (st.trans st2) rp⟩
    | false => exact ⟨δ, g, p1, S.step st, hs, hd', z, hz, fun v H2 p2 st2 rp => q v H2 p2 (st.trans st2) rp⟩
theorem x_nil : PA (X.suite a ((a, oe) :: pn)) [] (tXs X.K X.w HB pb a d i fs .nil) := by
  refine pa_mono pa_nil fun σ H Q h => ?_
  obtain ⟨δ, g, pa, S, hs, hd, z, hz, q⟩ := h
  have e : some [] = some z := hz
  cases e
  exact q [] H pa (Stp.refl S.pen) .nil
theorem x_cons {x : XV} {r : XVs} {e : Expr} {es : List Expr} (hx : PE (X.suite a ((a, oe) :: pn)) e (tX X.K X.w HB pb a d i fs x)) (hr : PA (X.suite a ((a, oe) :: pn)) es (tXs X.K X.w HB pb a d i fs r)) (hn : nice e = true) : PA (X.suite a ((a, oe) :: pn)) (e :: es) (tXs X.K X.w HB pb a d i fs (.cons x r)) := by
  refine pa_mono (pa_cons hx hr (nice_star hn es _)) fun σ H Q h => ?_
  obtain ⟨δ, g, pa, S, hs, hd, z, hz, q⟩ := h
  simp only [evXs] at hz
  cases e1 : evX fs x with
  | none => rw [e1] at hz; cases hz
  | some y =>
    cases e2 : evXs fs r with
    | none => rw [e1, e2] at hz; cases hz
    | some ys =>
      rw [e1, e2] at hz
      cases hz
      exact ⟨δ, g, pa, S, hs, hd, y, e1, fun v H1 p1 st rp => ⟨δ, g, p1, S.step st, hs, hd.step S.pen st, ys, e2, fun vs H2 p2 st2 rps => q _ H2 p2 (st.trans st2) (.cons (rp.kp st2.kp) rps)⟩⟩
theorem x_tup {xs : XVs} {es : List Expr} {k : Nat} {pos : Pos} (h : PA (X.suite a ((a, oe) :: pn)) es (tXs X.K X.w HB pb a d i fs xs)) (hl : es.length ≤ 1000) (hl2 : ∀ ys, evXs fs xs = some ys → ys.length = es.length) : PE (X.suite a ((a, oe) :: pn)) (.Tuple es k pos) (tX X.K X.w HB pb a d i fs (.tup xs)) := by
  refine pe_mono (pe_tup h) fun σ H Q h => ?_
  obtain ⟨δ, g, pa, S, hs, hd, z, hz, q⟩ := h
  simp only [evX] at hz
  cases e1 : evXs fs xs with
  | none => rw [e1] at hz; cases hz
  | some ys =>
    rw [e1] at hz
    cases hz
    refine ⟨δ, g, pa, S, hs, hd, ys, e1, fun vs H1 p1 st rp => ⟨by rw [← rp.length, hl2 ys e1, sizeLine_eq]; omega, fun p np => ?_⟩⟩
    exact q _ _ p1 (st.trans (Stp.new (S.step st).pen np)) (.tup (.inl (.inl upd_same)) (rp.kp (Kp.new np)))
theorem x_lst {xs : XVs} {es : List Expr} {pos : Pos} (h : PA (X.suite a ((a, oe) :: pn)) es (tXs X.K X.w HB pb a d i fs xs)) (hl : es.length ≤ 1000) (hl2 : ∀ ys, evXs fs xs = some ys → ys.length = es.length) : PE (X.suite a ((a, oe) :: pn)) (.List es pos) (tX X.K X.w HB pb a d i fs (.lst xs)) := by
  refine pe_newL (X := X.suite a ((a, oe) :: pn)) (r := .pure) (pe_lst h) fun σ H Q h => ?_
  obtain ⟨δ, g, pa, S, hs, hd, z, hz, q⟩ := h
  simp only [evX] at hz
  cases e1 : evXs fs xs with
  | none => rw [e1] at hz; cases hz
  | some ys =>
    rw [e1] at hz
    cases hz
    refine ⟨δ, g, pa, S, hs, hd, ys, e1, fun vs H1 p1 st rp => ⟨by rw [← rp.length, hl2 ys e1, sizeLine_eq]; omega, fun p np => ?_⟩⟩
    refine ⟨H1, p1, g, vs, ys, p, rfl, rfl, np, (S.step st).pen, rp, ?_⟩
    exact fun v H' p2 st2 dv _ => q v H' p2 (st.trans st2) dv
end
end Ld
/-! text LxC -/
set_option Elab.async false
set_option linter.all false
set_option maxRecDepth 100000
set_option maxHeartbeats 8000000
namespace Ld
open PySem PySem.Spec L2
open PyProof.Rows hiding St
variable [Fs]
section
variable {X : Cx} {ex : EX} {W W' : WX} {HB : Hp} {pb : Option Addr} {r : Md} {σ σ1 : St} {H H1 : Hp} {pa : Option Addr} {g : G} {δ : Env'} {D : Ends} {L : List Nat}
/-! ### a body of one statement: where an error comes from -/
theorem sEp {e : E} {f : DV → M Fl} (S : StOk X.K X.w HB pb σ H pa δ g) (p : postS X.K X.w ex W HB pb L σ H (bnd (ev r.b e δ) f g) D) :
    post X.K X.w ex W σ H pa r (ev r.b e δ g) fun v H1 => ∃ x g1 p1, StOk X.K X.w HB pb σ H1 p1 δ g1 ∧ Stp X.K X.w H pa H1 p1 g1 ∧ DvOk r X.K X.w H1 p1 x v ∧ (r = .own → mutD x = true → ∀ a, v = .ref a → H a = none) ∧ postS X.K X.w ex W HB pb L σ H1 (f x g1) D := by
  unfold bnd at p
  cases q : ev r.b e δ g with
  | no => rw [q] at p; exact p.elim
  | exc c fs g' =>
    rw [q] at p
    exact fun C d H' pa' st hx => p C d σ H' pa' δ (S.step st) hx
  | ok x g' =>
    rw [q] at p
    exact fun v H' pa' st dv fr => ⟨x, g', pa', S.step st, st, dv, fr, postS_step ⟨st.kp, fun _ _ => rfl⟩ p⟩
theorem retP {e : E} (S : StOk X.K X.w HB pb σ H pa δ g) (p : postS X.K X.w ex W HB pb L σ H (evS (.ret e) L δ g) D) : post X.K X.w ex W σ H pa .pure (ev false e δ g) fun v H1 => D.rt v H1 := by
  simp only [evS] at p
  exact post_mono (sEp (r := .pure) S p) fun v H1 ⟨x, g2, p2, S2, st, dv, _, p⟩ => p v H1 p2 S2.base dv
theorem exprP {e : E} (S : StOk X.K X.w HB pb σ H pa δ g) (p : postS X.K X.w ex W HB pb L σ H (evS (.expr e) L δ g) D) : post X.K X.w ex W σ H pa .read (ev true e δ g) fun v H1 => D.nx σ H1 := by
  simp only [evS] at p
  exact post_mono (sEp (r := .read) S p) fun v H1 ⟨x, g2, p2, S2, st, dv, _, p⟩ => p σ H1 p2 S2 Rl.refl
theorem asgP {t : Tg} {e : E} (S : StOk X.K X.w HB pb σ H pa δ g) (p : postS X.K X.w ex W HB pb L σ H (evS (.asg t e) L δ g) D) : post X.K X.w ex W σ H pa .pure (ev false e δ g) fun v H1 => gT X.K t v σ H1 D.nx := by
  simp only [evS] at p
  obtain ⟨fr, p⟩ := s_grd p
  have fr := free_mem fr
  refine post_mono (sEp (r := .pure) S p) fun v H1 ⟨x, g2, p2, S2, st, dv, _, p⟩ => ?_
  cases x with
  | d d =>
    obtain ⟨δ', hA, p⟩ := s_ofO p
    exact asgT_ok hA S2 dv fun σ' S' _ ek => p σ' H1 p2 S' ⟨Kp.refl _, fun i hi => ek i (fr i hi)⟩
  | pen =>
    cases t with
    | tp ts => exact p.elim
    | nm i =>
      refine p _ H1 p2 ?_ ⟨Kp.refl _, fun j hj => ?_⟩
      · by_cases hi : i < δ.length
        · exact S2.setS (s := .pen) dv hi fun _ e => by cases e
        · have e1 : σ.set i (some v) = σ := List.set_eq_of_length_le (by rw [S2.len]; omega)
          have e2 : δ.set i (some .pen) = δ := List.set_eq_of_length_le (by omega)
          rw [e1, e2]
          exact S2
      · exact List.getElem?_set_ne fun e => fr j hj (by simp [Tg.slots, e])
theorem ownP {i : Nat} {e : E} (S : StOk X.K X.w HB pb σ H pa δ g) (p : postS X.K X.w ex W HB pb L σ H (evS (.own i e) L δ g) D) : post X.K X.w ex W σ H pa .own (ev false e δ g) fun v H1 => gName i v σ H1 D.nx := by
  simp only [evS] at p
  obtain ⟨fr, p⟩ := s_grd p
  have fr := free_mem fr
  refine post_mono (sEp (r := .own) S p) fun v H1 ⟨x, g2, p2, S2, st, dv, fre, p⟩ => ?_
  obtain ⟨d, rfl, p'⟩ := s_dat p
  cases hb : decide (i < δ.length) && mutD (.d d) with
  | false => rw [hb] at p'; exact p'.elim
  | true =>
    rw [hb] at p'
    rw [Bool.and_eq_true, decide_eq_true_eq] at hb
    exact p' _ H1 p2 (StOk.setOwn S S2 hb.1 dv hb.2 (fre rfl hb.2)) ⟨Kp.refl _, fun j hj => List.getElem?_set_ne fun e => fr j hj (by simp [e])⟩
/-- statements that are one expression and what is done with its value -/
def oneE : S → Option (Md × E)
  | .ret e => some (.pure, e)
  | .expr e => some (.read, e)
  | .asg _ e => some (.pure, e)
  | .own _ e => some (.own, e)
  | _ => none
def oneF : S → Ends → V → St → Hp → Prop
  | .ret _, D, v, _, H => D.rt v H
  | .expr _, D, _, σ, H => D.nx σ H
  | .asg t _, D, v, σ, H => gT X.K t v σ H D.nx
  | .own i _, D, v, σ, H => gName i v σ H D.nx
  | _, _, _, _, _ => False
theorem oneP {s : S} {e : E} (h : oneE s = some (r, e)) (S : StOk X.K X.w HB pb σ H pa δ g) (p : postS X.K X.w ex W HB pb L σ H (evS s L δ g) D) : post X.K X.w ex W σ H pa r (ev r.b e δ g) fun v H1 => oneF (X := X) s D v σ H1 := by
  cases s <;> cases h
  · exact retP S p
  · exact exprP S p
  · exact asgP S p
  · exact ownP S p
theorem grdB_exc {α : Type} {b : Bool} {m : M α} {c : Nat} {fs : List (Str × PyData)} {g' : G} (h : grdB b m g = .exc c fs g') : m g = .exc c fs g' := by
  cases b with
  | true => exact h
  | false => cases h
/-- an error of the statement is one of its expression, and the other way round -/
theorem one_exc {s : S} {e : E} {c : Nat} {fs : List (Str × PyData)} {g' : G} (h : oneE s = some (r, e)) (q : evS s L δ g = .exc c fs g') : ev r.b e δ g = .exc c fs g' := by
  have key : ∀ (f : DV → M Fl), (∀ x g1, f x g1 ≠ .exc c fs g') → bnd (ev r.b e δ) f g = .exc c fs g' → ev r.b e δ g = .exc c fs g' := fun f hf hq => by
    unfold bnd at hq
    cases q2 : ev r.b e δ g with
    | no => rw [q2] at hq; cases hq
    | exc c2 fs2 g2 => rw [q2] at hq; cases hq; rfl
    | ok x g2 => rw [q2] at hq; exact absurd hq (hf x g2)
  cases s with
  | ret e' =>
    cases h
    exact key _ (fun x g1 z => by cases z) q
  | expr e' =>
    cases h
    exact key _ (fun x g1 z => by cases z) q
  | asg t e' =>
    cases h
    refine key _ (fun x g1 z => ?_) (grdB_exc q)
    cases x with
    | d d =>
      have z : bnd (ofO (asgT t d δ)) (fun δ' => rt (Fl.nx δ')) g1 = Res.exc c fs g' := z
      unfold bnd ofO at z
      cases w : asgT t d δ with
      | none => rw [w] at z; cases z
      | some y => rw [w] at z; cases z
    | pen => cases t <;> cases z
  | own i e' =>
    cases h
    refine key _ (fun x g1 z => ?_) (grdB_exc q)
    cases x with
    | d d =>
      have z : (match decide (i < δ.length) && mutD (.d d) with | true => rt (Fl.nx (δ.set i (some (.own d)))) | false => no) g1 = Res.exc c fs g' := z
      cases w : decide (i < δ.length) && mutD (.d d) with
      | true => rw [w] at z; cases z
      | false => rw [w] at z; cases z
    | pen => cases z
  | _ => cases h
theorem exc_one {s : S} {e : E} {c : Nat} {fs : List (Str × PyData)} {g' : G} (h : oneE s = some (r, e)) (q : ev r.b e δ g = .exc c fs g') : evS s L δ g = .exc c fs g' ∨ evS s L δ g = .no := by
  have key : ∀ (f : DV → M Fl), bnd (ev r.b e δ) f g = .exc c fs g' := fun f => by
    unfold bnd
    rw [q]
  have kg : ∀ (b : Bool) (f : DV → M Fl), grdB b (bnd (ev r.b e δ) f) g = .exc c fs g' ∨ grdB b (bnd (ev r.b e δ) f) g = .no := fun b f => by
    cases b with
    | true => exact .inl (key f)
    | false => exact .inr rfl
  cases s <;> cases h <;> simp only [evS]
  · exact .inl (key _)
  · exact .inl (key _)
  · exact kg _ _
  · exact kg _ _
/-- what is wished of errors does not matter where none comes -/
theorem post_W {x : Res DV} {Q : VK} (hx : ∀ c fs g', x ≠ .exc c fs g') (h : post X.K X.w ex W σ H pa r x Q) : post X.K X.w ex W' σ H pa r x Q := by
  cases x with
  | ok x g' => exact h
  | exc c fs g' => exact absurd rfl (hx c fs g')
  | no => exact h
/-! ### an except suite -/
def tH (X : Cx) (HB : Hp) (pb : Option Addr) (C : Addr) (i : Nat) (h : Hd) (a : Addr) (cls : Value) (d : Option Addr) : TS := fun D σ H => cls = .ref C ∧ ∃ fs, match h with
  | .ret x => tX X.K X.w HB pb a d i fs x σ H D.rt
  | .asg j x => tX X.K X.w HB pb a d i fs x σ H fun v H1 => D.nx (σ.set j (some v)) H1
theorem StOk.noise {K : PySem.W.Frag} {w : World} (S : StOk K w HB pb σ H pa δ g) {i : Nat} {v : V} : StOk K w HB pb (σ.set i (some v)) H pa (δ.set i none) g where
  len := by rw [List.length_set, List.length_set, S.len]
  slot := fun j t h => by
    rcases set_at h with ⟨e, e2⟩ | ⟨e, h⟩
    · cases e2
    · obtain ⟨u, h1, h2⟩ := S.slot j t h
      exact ⟨u, by rw [List.getElem?_set_ne e]; exact h1, h2⟩
  apart := fun j k x y hjk h1 h2 => by
    rcases set_at h1 with ⟨e, e2⟩ | ⟨e, h1'⟩
    · cases e2
    · rcases set_at h2 with ⟨f, f2⟩ | ⟨f, h2'⟩
      · cases f2
      · rw [List.getElem?_set_ne e, List.getElem?_set_ne f]
        exact S.apart j k x y hjk h1' h2'
  base := S.base
/-- try: one statement / except x as n: suite -/
theorem n_try {c : Nat} {x n : Str} {fn : List Str} {ib : List (Str × Bool)} {C : Addr} {s : S} {e : E} {h : Hd} {i : Nat} {st b₀ : Stmt} {suite : List Stmt} {np pos pos' : Pos} (hs : X.stack = X.env :: X.outer) (hf : X.env.frame = some X.env.locals) (hN : X.N.Nodup) (hi : X.N[i]? = some n) (hln : X.env.kindOf n = some .local)
    (T : ExRd X.K X.mg ex x c fn ib X.w C) (hg : Gl X x) (hd : (x == ("__debug__" : Str)) = false) (tk : Takes X W) (h1 : oneE s = some (r, e))
    (hb : ∀ (W' : WX) (pn : List (Addr × Obj)) (xe : Value → Shared → Prop), Takes (X.tr pn xe) W' → PassesOwn (model X.prog X.w) X.A X.env xe → PS (X.tr pn xe) st (fun D σ H => TX (X.tr pn xe) ex W' HB pb r e σ H fun v H1 => oneF (X := X) s D v σ H1))
    (hsu : ∀ (a : Addr) (oe : Obj) (d : Option Addr) (pn : List (Addr × Obj)), Zc (.ref C) d oe → (∃ vs, oe.data = .fields vs) → PSs (X.suite a ((a, oe) :: pn)) (b₀ :: suite) (tH X HB pb C i h a (.ref C) d)) :
    PS X (.Try [st] [.ExceptHandler (some (.Name x np)) (some n) (b₀ :: suite) pos'] [] [] pos) (tS X.K X.w ex W HB pb L (.try_ s c i h)) := by
  refine ps_mono (ps_try_as (c := .ref C) (ts := tH X HB pb C i h) (tb := fun W' D σ H => TX X ex W' HB pb r e σ H fun v H1 => oneF (X := X) s D v σ H1) hs hf hN hi hln ⟨hg, hd, .inl T.mg⟩ tk (fun W' pn xe tk' po => pss_one (hb W' pn xe tk' po)) (fun a oe cls d pn hz hv => ?_)) fun D σ H hh => ?_
  · by_cases hc : cls = .ref C
    · subst hc
      exact hsu a oe d pn hz hv
    · refine pss_mono pss_never fun D σ H hh => hc hh.1
  · obtain ⟨δ, g, pa, S, p⟩ := hh
    simp only [evS] at p
    obtain ⟨fr, p⟩ := s_grd p
    rw [Bool.and_eq_true, decide_eq_true_eq] at fr
    obtain ⟨hil, fr⟩ := fr
    have fr := free_mem fr
    have hil2 : i < σ.length := by rw [S.len]; exact hil
    refine ⟨δ, g, pa, S, ?_⟩
    -- no error
    have calm : (∀ c' fs g', ev r.b e δ g ≠ .exc c' fs g') → post X.K X.w ex (wAs X.K (.ref C) i (tH X HB pb C i h) W D) σ H pa r (ev r.b e δ g) fun v H1 => oneF (X := X) s D v σ H1 := fun ne => by
      have e2 : tryR c (fun fs => evH fs δ i h) (evS s L δ g) = evS s L δ g := by
        cases q : evS s L δ g with
        | exc c' fs g' => exact absurd (one_exc h1 q) (ne c' fs g')
        | ok => rfl
        | no => rfl
      rw [e2] at p
      exact post_W ne (oneP h1 S p)
    cases q : ev r.b e δ g with
    | exc c' fs g' =>
      rcases exc_one (L := L) h1 q with q2 | q2
      · rw [q2] at p
        have p : postS X.K X.w ex W HB pb L σ H (match decide (c = c') with | true => evH fs δ i h g' | false => .exc c' fs g') D := p
        intro C' d H' pa' stp hx
        refine ⟨decide (c = c'), T.exm hx, fun hb a na => ?_, fun hb => ?_⟩
        · rw [hb] at p
          have hcc : c = c' := of_decide_eq_true hb
          subst hcc
          obtain ⟨rfl, hxd⟩ := T.is.mp hx
          have S1 := S.step stp
          refine ⟨rfl, fs, ?_⟩
          have S2 : StOk X.K X.w HB pb (σ.set i (some (.ref a))) H' pa' (δ.set i none) g' := S1.noise
          cases h with
          | ret y =>
            obtain ⟨z, hz, p⟩ := s_ofO p
            exact ⟨_, g', pa', S2, List.getElem?_set_self hil2, hxd, z, hz, fun v H2 p2 st2 rp => p v H2 p2 (S2.base.trans st2) rp⟩
          | asg j y =>
            obtain ⟨hj, p⟩ := s_grd p
            obtain ⟨z, hz, p⟩ := s_ofO p
            refine ⟨_, g', pa', S2, List.getElem?_set_self hil2, hxd, z, hz, fun v H2 p2 st2 rp => ?_⟩
            have S3 := ((S2.step st2).setV rp (i := j) (by rw [List.length_set]; exact of_decide_eq_true hj)).forget (i := i)
            refine p _ H2 p2 S3 ⟨stp.kp.trans st2.kp, fun k hk => ?_⟩
            have n1 : k ≠ i := fun z => fr k hk (by simp [z])
            have n2 : k ≠ j := fun z => fr k hk (by simp [hdSlots, z])
            rw [List.getElem?_set_ne (Ne.symm n1), List.getElem?_set_ne (Ne.symm n2), List.getElem?_set_ne (Ne.symm n1)]
        · rw [hb] at p
          exact p C' d σ H' pa' δ (S.step stp) hx
      · rw [q2] at p
        exact p.elim
    | ok y g' =>
      have k := calm (fun c' fs g2 z => by rw [q] at z; cases z)
      rw [q] at k
      exact k
    | no =>
      have k := calm (fun c' fs g2 z => by rw [q] at z; cases z)
      rw [q] at k
      exact k
end
end Ld
/-! text LxD -/
set_option Elab.async false
set_option linter.all false
set_option maxRecDepth 100000
set_option maxHeartbeats 8000000
namespace Ld
open PySem PySem.Spec L2
open PyProof.Rows hiding St
variable [Fs]
theorem strsEq_eq : ∀ {a b : List Str}, strsEq a b = true → a = b
  | [], [], _ => rfl
  | [], _ :: _, h => by cases h
  | _ :: _, [], h => by cases h
  | a :: r, b :: t, h => by
    obtain ⟨h1, h2⟩ := and2 (show (strEq a b && strsEq r t) = true from h)
    rw [strEq_eq h1, strsEq_eq h2]
theorem isLoc_lk {X : Cx} {ex : EX} {W : WX} {c : Cst} (F : Fit X ex W c) {n : Str} (hn : isLoc c n = true) : X.env.scope.names.lookup n = some .local := by
  rw [F.sc]
  unfold isLoc kdOf at hn
  split at hn
  · assumption
  · cases hn
section
variable {ex : EX} {HB : Hp} {pb : Option Addr} {X : Cx} {W : WX} {c : Cst}
theorem one_ok (F : Fit X ex W c) : ∀ {s : S} {st : Stmt}, chkOne c s st = true → ∃ r e, oneE s = some (r, e) ∧ PS X st (fun D σ H => TX X ex W HB pb r e σ H fun v H1 => oneF (X := X) s D v σ H1) := by
  intro s st h
  cases s <;> try (cases h; done)
  case ret e =>
    cases st <;> try (simp [chkOne] at h; done)
    rename_i o p
    cases o with
    | none => simp [chkOne] at h
    | some x => exact ⟨_, _, rfl, ps_ret (good_v (chk_ok e F (by simp) (show chk c (.v .pure) x e x = true from h)))⟩
  case expr e =>
    cases st <;> try (simp [chkOne] at h; done)
    rename_i x p
    obtain ⟨h0, h1⟩ := and2 (show (noComp x && chk c (.v .read) x e x) = true from h)
    exact ⟨_, _, rfl, ps_expr (good_v (chk_ok e F (by simp) h1)) (noComp_sw h0 _ _ _)⟩
  case asg t e =>
    cases st <;> try (simp [chkOne] at h; done)
    rename_i tgs x p
    match tgs, h with
    | [], h => simp [chkOne] at h
    | _ :: _ :: _, h => simp [chkOne] at h
    | [tg], h =>
      obtain ⟨h0, h⟩ := and2 (show (noComp x && (nice tg && (chkT c t tg && (chk c (.v .pure) x e x && swpNo c tg x)))) = true from h)
      obtain ⟨h1, h⟩ := and2 h
      obtain ⟨h2, h⟩ := and2 h
      obtain ⟨h3, h4⟩ := and2 h
      exact ⟨_, _, rfl, ps_asg (good_v (chk_ok e F (by simp) h3)) (chkT_ok F h2) (noComp_sole h0 _ _ _) (swpNo_ok F.sc F.kind h4) (by cases tg <;> first | rfl | cases h1)⟩
  case own i e =>
    cases st <;> try (simp [chkOne] at h; done)
    rename_i tgs x p
    match tgs, h with
    | [], h => simp [chkOne] at h
    | _ :: _ :: _, h => simp [chkOne] at h
    | [tg], h =>
      cases tg <;> try (simp [chkOne] at h; done)
      rename_i n pn
      obtain ⟨h0, h⟩ := and2 (show (atC c i n && (stoC c n && (noC x && (!swL c n pn x && chk c (.v .own) x e x)))) = true from h)
      obtain ⟨h1, h⟩ := and2 h
      obtain ⟨h2, h⟩ := and2 h
      obtain ⟨h3, h4⟩ := and2 h
      obtain ⟨l1, l2⟩ := F.loc h1
      exact ⟨_, _, rfl, ps_set F.rdy.nd (F.at h0) l1 (good_v (chk_ok e F (by simp) h4)) (swL_no F.sc F.kind h2 (by simpa using h3)) l2⟩
/-- an expression of a suite -/
theorem evXs_len {fs : List (Str × PyData)} {n : Str} {fn : List Str} {ib : List (Str × Bool)} : ∀ {xs : XVs} {es : List Expr} {ys : List PyData}, chkXs c n fn ib xs es = true → evXs fs xs = some ys → ys.length = es.length
  | .nil, es, ys, h, e => by
    cases es with
    | nil =>
      have e : some [] = some ys := e
      cases e
      rfl
    | cons => simp [chkXs] at h
  | .cons x r, es, ys, h, e => by
    cases es with
    | nil => simp [chkXs] at h
    | cons y es =>
      obtain ⟨_, h⟩ := and2 (show (nice y && (chkX c n fn ib x y && chkXs c n fn ib r es)) = true from h)
      obtain ⟨_, h⟩ := and2 h
      simp only [evXs] at e
      cases e1 : evX fs x with
      | none => rw [e1] at e; cases e
      | some z =>
        cases e2 : evXs fs r with
        | none => rw [e1, e2] at e; cases e
        | some zs =>
          rw [e1, e2] at e
          cases e
          rw [List.length_cons, List.length_cons, evXs_len h e2]
mutual
theorem chkX_ok (F : Fit X ex W c) {x : Str} {k i : Nat} {n : Str} {fn : List Str} {ib : List (Str × Bool)} {C a : Addr} {oe : Obj} {d : Option Addr} {pn : List (Addr × Obj)} {fs : List (Str × PyData)} (T : ExRd X.K X.mg ex x k fn ib X.w C) (hz : Zc (.ref C) d oe) (hf : ∃ vs, oe.data = .fields vs)
    (hN : X.N[i]? = some n) (hv : Vis X.env.scope n) (hd : (n == ("__debug__" : Str)) = false) (hcd : (n == ("__classdict__" : Str)) = false) : ∀ (y : XV) {e : Expr}, chkX c n fn ib y e = true → PE (X.suite a ((a, oe) :: pn)) e (tX X.K X.w HB pb a d i fs y)
  | .cst y, e, h => by
    obtain ⟨k, p, q⟩ := cstC_eq (show cstC y e = true from h)
    exact x_cst q
  | .fld f, e, h => by
    cases e <;> try (simp [chkX] at h; done)
    rename_i o f' p
    cases o <;> try (simp [chkX] at h; done)
    rename_i m p2
    obtain ⟨h1, h⟩ := and2 (show (strEq m n && (strEq f' f && fn.any (strEq f))) = true from h)
    obtain ⟨h2, h3⟩ := and2 h
    have e1 := strEq_eq h1
    have e2 := strEq_eq h2
    subst e1 e2
    obtain ⟨g, hg, hq⟩ := List.any_eq_true.mp h3
    rw [← strEq_eq hq] at hg
    exact x_fld T.xf (T.no _ hg) hz hf hN hv hd hcd rfl
  | .isB b v, e, h => by
    cases e <;> try (simp [chkX] at h; done)
    rename_i o es kws p
    cases o <;> try (simp [chkX] at h; done)
    rename_i g p1
    match es, kws, h with
    | [.Name m p2, .Name b' p3], [], h =>
      obtain ⟨h1, h⟩ := and2 (show (strEq g "isinstance" && (bltC c "isinstance" && (strEq m n && (strEq b' b && (bltC c b && ib.any fun p => strEq p.1 b && p.2 == v))))) = true from h)
      obtain ⟨h2, h⟩ := and2 h
      obtain ⟨h3, h⟩ := and2 h
      obtain ⟨h4, h⟩ := and2 h
      obtain ⟨h5, h6⟩ := and2 h
      have e1 := strEq_eq h1
      have e3 := strEq_eq h3
      have e4 := strEq_eq h4
      subst e1 e3 e4
      obtain ⟨q, hq, hq2⟩ := List.any_eq_true.mp h6
      obtain ⟨hq3, hq4⟩ := and2 hq2
      obtain ⟨q1, q2⟩ := q
      have e5 := strEq_eq hq3
      have e6 : q2 = v := eq_of_beq hq4
      dsimp only at e5
      subst e5 e6
      exact x_isB T hq (F.bl h2).1 (F.bl h2).2 (F.bl h5).1 (F.bl h5).2 hz hf hN hv hd hcd
  | .ife y u v, e, h => by
    cases e <;> try (simp [chkX] at h; done)
    rename_i z1 z2 z3 p
    obtain ⟨h1, h⟩ := and2 (show (tstv z1 && (chkX c n fn ib y z1 && (chkX c n fn ib u z2 && chkX c n fn ib v z3))) = true from h)
    obtain ⟨h2, h⟩ := and2 h
    obtain ⟨h3, h4⟩ := and2 h
    exact x_ife (chkX_ok F T hz hf hN hv hd hcd y h2) h1 (chkX_ok F T hz hf hN hv hd hcd u h3) (chkX_ok F T hz hf hN hv hd hcd v h4)
  | .tup xs, e, h => by
    cases e <;> try (simp [chkX] at h; done)
    rename_i es k' p
    obtain ⟨h1, h2⟩ := and2 (show (decide (es.length ≤ 1000) && chkXs c n fn ib xs es) = true from h)
    exact x_tup (chkXs_ok F T hz hf hN hv hd hcd xs h2) (of_decide_eq_true h1) fun ys e => evXs_len h2 e
  | .lst xs, e, h => by
    cases e <;> try (simp [chkX] at h; done)
    rename_i es p
    obtain ⟨h1, h2⟩ := and2 (show (decide (es.length ≤ 1000) && chkXs c n fn ib xs es) = true from h)
    exact x_lst (chkXs_ok F T hz hf hN hv hd hcd xs h2) (of_decide_eq_true h1) fun ys e => evXs_len h2 e
theorem chkXs_ok (F : Fit X ex W c) {x : Str} {k i : Nat} {n : Str} {fn : List Str} {ib : List (Str × Bool)} {C a : Addr} {oe : Obj} {d : Option Addr} {pn : List (Addr × Obj)} {fs : List (Str × PyData)} (T : ExRd X.K X.mg ex x k fn ib X.w C) (hz : Zc (.ref C) d oe) (hf : ∃ vs, oe.data = .fields vs)
    (hN : X.N[i]? = some n) (hv : Vis X.env.scope n) (hd : (n == ("__debug__" : Str)) = false) (hcd : (n == ("__classdict__" : Str)) = false) : ∀ (y : XVs) {es : List Expr}, chkXs c n fn ib y es = true → PA (X.suite a ((a, oe) :: pn)) es (tXs X.K X.w HB pb a d i fs y)
  | .nil, es, h => by
    cases es with
    | nil => exact x_nil
    | cons => simp [chkXs] at h
  | .cons x r, es, h => by
    cases es with
    | nil => simp [chkXs] at h
    | cons e es =>
      obtain ⟨h1, h⟩ := and2 (show (nice e && (chkX c n fn ib x e && chkXs c n fn ib r es)) = true from h)
      obtain ⟨h2, h3⟩ := and2 h
      exact x_cons (chkX_ok F T hz hf hN hv hd hcd x h2) (chkXs_ok F T hz hf hN hv hd hcd r h3) h1
end
theorem chkH_ok (F : Fit X ex W c) {x : Str} {k i : Nat} {n : Str} {fn : List Str} {ib : List (Str × Bool)} {C a : Addr} {oe : Obj} {d : Option Addr} {pn : List (Addr × Obj)} (T : ExRd X.K X.mg ex x k fn ib X.w C) (hz : Zc (.ref C) d oe) (hf : ∃ vs, oe.data = .fields vs)
    (hN : X.N[i]? = some n) (hv : Vis X.env.scope n) (hd : (n == ("__debug__" : Str)) = false) (hcd : (n == ("__classdict__" : Str)) = false) {h : Hd} {st : Stmt} (q : chkH c n fn ib h st = true) : PSs (X.suite a ((a, oe) :: pn)) [st] (tH X HB pb C i h a (.ref C) d) := by
  cases h with
  | ret y =>
    cases st <;> try (simp [chkH] at q; done)
    rename_i o p
    cases o with
    | none => simp [chkH] at q
    | some e =>
      refine ⟨fun pins s σ H D I hh => ?_⟩
      obtain ⟨_, fs, hh⟩ := hh
      exact (pss_one (ps_ret (chkX_ok (HB := HB) (pb := pb) (fs := fs) F T hz hf hN hv hd hcd y (show chkX c n fn ib y e = true from q)))).run pins s σ H D I hh
  | asg j y =>
    cases st <;> try (simp [chkH] at q; done)
    rename_i tgs e p
    match tgs, q with
    | [], q => simp [chkH] at q
    | _ :: _ :: _, q => simp [chkH] at q
    | [tg], q =>
      cases tg <;> try (simp [chkH] at q; done)
      rename_i m pm
      obtain ⟨h0, q⟩ := and2 (show (atC c j m && (stoC c m && (noComp e && chkX c n fn ib y e))) = true from q)
      obtain ⟨h1, q⟩ := and2 q
      obtain ⟨h2, h3⟩ := and2 q
      obtain ⟨l1, l2⟩ := F.loc h1
      refine ⟨fun pins s σ H D I hh => ?_⟩
      obtain ⟨_, fs, hh⟩ := hh
      exact (pss_one (ps_set (X := X.suite a ((a, oe) :: pn)) F.rdy.nd (F.at h0) l1 (chkX_ok (HB := HB) (pb := pb) (fs := fs) F T hz hf hN hv hd hcd y h3) (noComp_sw h2 _ _ _) l2)).run pins s σ H D I hh
theorem raise_ok (F : Fit X ex W c) {L : List Nat} {k : Nat} {fn : List Str} {es : Es} {st : Stmt} (h : chkS c (.raise k fn es) st = true) : PS X st (tS X.K X.w ex W HB pb L (.raise k fn es)) := by
  cases st <;> try (simp [chkS] at h; done)
  rename_i o o2 p
  cases o <;> try (simp [chkS] at h; done)
  rename_i e
  cases e <;> try (simp [chkS] at h; done)
  rename_i f xs kws p1
  cases f <;> try (simp [chkS] at h; done)
  rename_i x p2
  match xs, kws, o2, h with
  | [], _, _, h => simp [chkS] at h
  | _ :: _, _ :: _, _, h => simp [chkS] at h
  | _ :: _, [], some _, h => simp [chkS] at h
  | y :: ys, [], none, h =>
    obtain ⟨h0, h⟩ := and2 (show (gloC c x && (nmC x && ((c.T.excs.any fun p => strEq p.1 x && (decide (p.2.1 = k) && strsEq p.2.2.1 fn)) && (niceAll (y :: ys) && (chks c .pure es (y :: ys) && (decide (es.len = fn.length) && decide (es.len ≤ 1000))))))) = true from h)
    obtain ⟨h1, h⟩ := and2 h
    obtain ⟨h2, h⟩ := and2 h
    obtain ⟨h3, h⟩ := and2 h
    obtain ⟨h4, h⟩ := and2 h
    obtain ⟨h5, h6⟩ := and2 h
    obtain ⟨⟨x', k', fn', ib⟩, hm, hq⟩ := List.any_eq_true.mp h2
    obtain ⟨q1, hq⟩ := and2 hq
    obtain ⟨q2, q3⟩ := and2 hq
    have e1 := strEq_eq q1
    have e2 := of_decide_eq_true q2
    have e3 := strsEq_eq q3
    dsimp only at e1 e2 e3
    subst e1 e2 e3
    exact n_raise F.rdy F.tk (F.exc _ _ _ _ hm) (F.glo h0) (nmC_ok h1).1 (chks_ok es F h4) h3 (of_decide_eq_true h5) (of_decide_eq_true h6)
theorem try_ok (F : Fit X ex W c) (fr : X.stack = X.env :: X.outer ∧ X.env.frame = some X.env.locals) {L : List Nat} {k i : Nat} {s : S} {h : Hd} {st : Stmt} (q : chkS c (.try_ s k i h) st = true) : PS X st (tS X.K X.w ex W HB pb L (.try_ s k i h)) := by
  cases st <;> try (simp [chkS] at q; done)
  rename_i body hds oe fin p
  match body, hds, oe, fin, q with
  | [b], [.ExceptHandler (some (.Name x np)) (some n) [hs] hp], [], [], q =>
    obtain ⟨h0, q⟩ := and2 (show (gloC c x && (nmC x && (atC c i n && (isLoc c n && (nmC n && (chkOne c s b && c.T.excs.any fun p => strEq p.1 x && (decide (p.2.1 = k) && chkH c n p.2.2.1 p.2.2.2 h hs))))))) = true from q)
    obtain ⟨h1, q⟩ := and2 q
    obtain ⟨h2, q⟩ := and2 q
    obtain ⟨h3, q⟩ := and2 q
    obtain ⟨h4, q⟩ := and2 q
    obtain ⟨h5, h6⟩ := and2 q
    obtain ⟨⟨x', k', fn, ib⟩, hm, hq⟩ := List.any_eq_true.mp h6
    obtain ⟨q1, hq⟩ := and2 hq
    obtain ⟨q2, q3⟩ := and2 hq
    have e1 := strEq_eq q1
    have e2 := of_decide_eq_true q2
    dsimp only at e1 e2 q3
    subst e1 e2
    obtain ⟨C, kk, fI, fd, ps, T, M, room⟩ := (F.exc _ _ _ _ hm).at_
    obtain ⟨r, e, he, _⟩ := one_ok (HB := HB) (pb := pb) F h5
    refine n_try fr.1 fr.2 F.rdy.nd (F.at h2) (isLoc_lk F h3) T (F.glo h0) (nmC_ok h1).1 F.tk he (fun W' pn xe tk' po => ?_) (fun a oe d pn hz hv => chkH_ok F T hz hv (F.at h2) (.inl (isLoc_lk F h3)) (nmC_ok h4).1 (nmC_ok h4).2 q3)
    obtain ⟨r', e', he', P⟩ := one_ok (HB := HB) (pb := pb) (F.tr tk') h5
    rw [he] at he'
    cases he'
    exact P
end
end Ld
/-! text LdZc -/
set_option Elab.async false
set_option linter.all false
set_option maxRecDepth 100000
set_option maxHeartbeats 8000000
namespace Ld
open PySem PySem.Spec L2
open PyProof.Rows hiding St
variable [Fs]
theorem isRetN_eq {e : E} (h : isRetN e = true) : e = .cst .none := by
  cases e <;> try (cases h; done)
  rename_i d
  cases d <;> first | rfl | cases h
theorem sameLine_eq {a b : Pos} (h : sameLine a b = true) : (a.endLine == b.line) = true := h
theorem noComp_noC {x : Expr} (h : noComp x = true) : noC x = true := by cases x <;> first | rfl | cases h
/-- the target and the tuple of two names stored from the right -/
theorem par2_parts {c : Cst} {t : Tg} {e : E} {tg x : Expr} (h1 : isPar2 c tg x = true) (h2 : chkT c t tg = true) (h3 : chk c (.v .pure) x e x = true) :
    ∃ i j a b n1 n2 p1 p2 k p u v k2 q, t = .tp (.cons (.nm i) (.cons (.nm j) .nil)) ∧ e = .tup (.cons a (.cons b .nil)) ∧ tg = .Tuple [.Name n1 p1, .Name n2 p2] k p ∧ x = .Tuple [u, v] k2 q ∧
      atC c i n1 = true ∧ atC c j n2 = true ∧ n1 ≠ n2 ∧ isLoc c n1 = true ∧ isLoc c n2 = true ∧ nice u = true ∧ nice v = true ∧ chk c (.v .pure) (.Name "" ⟨0, 0, 0, 0⟩) a u = true ∧ chk c (.v .pure) (.Name "" ⟨0, 0, 0, 0⟩) b v = true ∧ swpR (kdOf c) [.Name n1 p1, .Name n2 p2] [u, v] = some (some [n1, n2]) := by
  unfold isPar2 at h1
  split at h1
  · rename_i n1 p1 n2 p2 k p u v k2 q
    split at h1
    · rename_i a' b' hsw
      obtain ⟨e1, h1⟩ := and2 h1
      obtain ⟨e2, h1⟩ := and2 h1
      obtain ⟨l1, h1⟩ := and2 h1
      obtain ⟨l2, h1⟩ := and2 h1
      obtain ⟨nu, h1⟩ := and2 h1
      obtain ⟨nv, hne⟩ := and2 h1
      have e1 := strEq_eq e1
      have e2 := strEq_eq e2
      subst e1 e2
      have hne : n1 ≠ n2 := fun e => by
        have := not1 hne
        unfold strEq at this
        rw [decide_eq_false_iff_not] at this
        exact this e
      cases t with
      | nm i => simp [chkT] at h2
      | tp ts =>
        cases ts with
        | nil => simp [chkT, chkTs] at h2
        | cons t1 r1 =>
          cases r1 with
          | nil => simp [chkT, chkTs] at h2
          | cons t2 r2 =>
            cases r2 with
            | cons => simp [chkT, chkTs] at h2
            | nil =>
              have h2 : (nice (.Name n1 p1) && (chkT c t1 (.Name n1 p1) && (nice (.Name n2 p2) && (chkT c t2 (.Name n2 p2) && true)))) = true := h2
              obtain ⟨_, h2⟩ := and2 h2
              obtain ⟨c1, h2⟩ := and2 h2
              obtain ⟨_, h2⟩ := and2 h2
              obtain ⟨c2, _⟩ := and2 h2
              cases t1 with
              | tp => simp [chkT] at c1
              | nm i =>
                cases t2 with
                | tp => simp [chkT] at c2
                | nm j =>
                  obtain ⟨a1, _⟩ := and2 (show (atC c i n1 && stoC c n1) = true from c1)
                  obtain ⟨a2, _⟩ := and2 (show (atC c j n2 && stoC c n2) = true from c2)
                  cases e <;> try (simp [chk, cstC] at h3; done)
                  case tup es =>
                    obtain ⟨_, h3⟩ := and2 (show (decide (es.len ≤ 1000) && chks c .pure es [u, v]) = true from h3)
                    cases es with
                    | nil => simp [chks] at h3
                    | cons a r =>
                      cases r with
                      | nil => simp [chks] at h3
                      | cons b r2 =>
                        cases r2 with
                        | cons => simp [chks] at h3
                        | nil =>
                          have h3 : (nice u && (chk c (.v .pure) (.Name "" ⟨0, 0, 0, 0⟩) a u && (nice v && (chk c (.v .pure) (.Name "" ⟨0, 0, 0, 0⟩) b v && true)))) = true := h3
                          obtain ⟨_, h3⟩ := and2 h3
                          obtain ⟨g1, h3⟩ := and2 h3
                          obtain ⟨_, h3⟩ := and2 h3
                          obtain ⟨g2, _⟩ := and2 h3
                          exact ⟨i, j, a, b, n1, n2, p1, p2, k, p, u, v, k2, q, rfl, rfl, rfl, rfl, a1, a2, hne, l1, l2, nu, nv, g1, g2, hsw⟩
    · cases h1
  · cases h1
mutual
theorem chkS_ok {ex : EX} {HB : Hp} {pb : Option Addr} {X : Cx} {W : WX} {c : Cst} (F : Fit X ex W c) (po : PassesOwn (model X.prog X.w) X.A X.env X.xe) (fr : X.stack = X.env :: X.outer ∧ X.env.frame = some X.env.locals) {L : List Nat} : ∀ (s : S) {st : Stmt}, chkS c s st = true → PS X st (tS X.K X.w ex W HB pb L s)
  | .pass, st, h => by
    cases st <;> try (simp [chkS] at h; done)
    case Pass => exact n_pass
    case Expr x p =>
      cases x <;> try (simp [chkS] at h; done)
      rename_i v k p2
      cases v <;> try (simp [chkS] at h; done)
      exact n_doc
  | .brk, st, h => by
    cases st <;> try (simp [chkS] at h; done)
    exact n_brk
  | .cont, st, h => by
    cases st <;> try (simp [chkS] at h; done)
    exact n_cont
  | .ret e, st, h => by
    cases st <;> try (simp [chkS] at h; done)
    rename_i o p
    cases o with
    | none => rw [isRetN_eq (show isRetN e = true from h)]; exact n_retN
    | some x => exact n_ret (good_v (chk_ok e F (by simp) (show chk c (.v .pure) x e x = true from h)))
  | .expr e, st, h => by
    cases st <;> try (simp [chkS] at h; done)
    rename_i x p
    obtain ⟨h0, h1⟩ := and2 (show (noComp x && chk c (.v .read) x e x) = true from h)
    exact n_expr (good_v (chk_ok e F (by simp) h1)) h0
  | .asg t e, st, h => by
    cases st <;> try (simp [chkS] at h; done)
    rename_i tgs x p
    match tgs, h with
    | [], h => simp [chkS] at h
    | _ :: _ :: _, h => simp [chkS] at h
    | [tg], h =>
      obtain ⟨h0, h⟩ := and2 (show (noComp x && (nice tg && (chkT c t tg && (chk c (.v .pure) x e x && (swpNo c tg x || isPar2 c tg x))))) = true from h)
      obtain ⟨h1, h⟩ := and2 h
      obtain ⟨h2, h⟩ := and2 h
      obtain ⟨h3, h4⟩ := and2 h
      rw [Bool.or_eq_true] at h4
      rcases h4 with h4 | h4
      · exact n_asg (good_v (chk_ok e F (by simp) h3)) (chkT_ok F h2) (noComp_sole h0 _ _ _) (swpNo_ok F.sc F.kind h4) h1
      · obtain ⟨i, j, a, b, n1, n2, p1, p2, k, q, u, v, k2, q2, rfl, rfl, rfl, rfl, a1, a2, ne, l1, l2, nu, nv, c1, c2, sw⟩ := par2_parts h4 h2 h3
        have kd : X.env.kindOf = kdOf c := by funext y; show X.env.scope.names.lookup y = _; rw [F.sc]; rfl
        have loc : ∀ n, isLoc c n = true → X.env.scope.names.lookup n = some .local := fun n hn => by
          rw [F.sc]
          unfold isLoc kdOf at hn
          split at hn
          · assumption
          · cases hn
        refine n_par2 F (F.at a1) (F.at a2) (fun e => ne ?_) (loc _ l1) (loc _ l2) (good_v (chk_ok a F (by simp) c1)) (good_v (chk_ok b F (by simp) c2)) nu nv (swp_ok (by rw [F.sc]; exact F.kind) (by rw [kd]; exact sw))
        subst e
        have e1 := F.at a1
        rw [F.at a2] at e1
        exact (Option.some.inj e1).symm
  | .own i e, st, h => by
    cases st <;> try (simp [chkS] at h; done)
    rename_i tgs x p
    match tgs, h with
    | [], h => simp [chkS] at h
    | _ :: _ :: _, h => simp [chkS] at h
    | [tg], h =>
      cases tg <;> try (simp [chkS] at h; done)
      rename_i n pn
      obtain ⟨h0, h⟩ := and2 (show (atC c i n && (stoC c n && (noC x && (swapL c n pn x e && chk c (.v .own) x e x)))) = true from h)
      obtain ⟨h1, h⟩ := and2 h
      obtain ⟨h2, h⟩ := and2 h
      obtain ⟨h3, h4⟩ := and2 h
      obtain ⟨l1, l2⟩ := F.loc h1
      cases q : swL c n pn x with
      | false => exact n_own F.rdy (good_v (chk_ok e F (by simp) h4)) (F.at h0) l1 l2 (swL_no F.sc F.kind h2 q)
      | true =>
        cases e <;> try (simp [swapL, q] at h3; done)
        rename_i x' t it cnd
        have hl : isLoc c n = true := by simpa [swapL, q] using h3
        obtain ⟨elt, tg', iter, ifs, s, p', own, rfl, ok, hi, ho, hg, ht, he, hn⟩ := lc_parts (HB := HB) (pb := pb) F h4
        have kd : X.env.kindOf = kdOf c := by funext y; show X.env.scope.names.lookup y = _; rw [F.sc]; rfl
        have hloc : X.env.scope.names.lookup n = some .local := by
          rw [F.sc]
          unfold isLoc kdOf at hl
          split at hl
          · assumption
          · cases hl
        refine n_ownLc F.rdy (F.at h0) hloc ?_ ok hi ho hg ht he hn
        rw [swB_ok (by rw [F.sc]; exact F.kind), kd]
        exact congrArg pure (show swB (kdOf c) n pn s p' = true from q)
  | .app i e, st, h => by
    cases st <;> try (simp [chkS] at h; done)
    rename_i x p
    cases x <;> try (simp [chkS] at h; done)
    rename_i f xs kws cp
    cases f <;> try (simp [chkS] at h; done)
    rename_i o a ap
    cases o <;> try (simp [chkS] at h; done)
    rename_i n p1
    cases kws <;> try (simp [chkS] at h; done)
    match xs, h with
    | [], h => simp [chkS] at h
    | _ :: _ :: _, h => simp [chkS] at h
    | [y], h =>
      obtain ⟨h0, h⟩ := and2 (show (strEq a "append" && (varC c i n && (nice y && (sameLine ap cp && chk c (.v .pure) y e y)))) = true from h)
      obtain ⟨h1, h⟩ := and2 h
      obtain ⟨h2, h⟩ := and2 h
      obtain ⟨h3, h4⟩ := and2 h
      obtain ⟨v1, h1⟩ := and2 (show (atC c i n && (visC c n && nmC n)) = true from h1)
      obtain ⟨v2, v3⟩ := and2 h1
      rw [strEq_eq h0]
      exact s_app (F.at v1) (F.vis v2) (nmC_ok v3).1 (nmC_ok v3).2 (good_v (chk_ok e F (by simp) h4)) h2 h3
  | .ext i e, st, h => by
    cases st <;> try (simp [chkS] at h; done)
    rename_i x p
    cases x <;> try (simp [chkS] at h; done)
    rename_i f xs kws cp
    cases f <;> try (simp [chkS] at h; done)
    rename_i o a ap
    cases o <;> try (simp [chkS] at h; done)
    rename_i n p1
    cases kws <;> try (simp [chkS] at h; done)
    match xs, h with
    | [], h => simp [chkS] at h
    | _ :: _ :: _, h => simp [chkS] at h
    | [y], h =>
      obtain ⟨h0, h⟩ := and2 (show (strEq a "extend" && (varC c i n && (nice y && (sameLine ap cp && chk c (.v .read) y e y)))) = true from h)
      obtain ⟨h1, h⟩ := and2 h
      obtain ⟨h2, h⟩ := and2 h
      obtain ⟨h3, h4⟩ := and2 h
      obtain ⟨v1, h1⟩ := and2 (show (atC c i n && (visC c n && nmC n)) = true from h1)
      obtain ⟨v2, v3⟩ := and2 h1
      rw [strEq_eq h0]
      exact s_ext (F.at v1) (F.vis v2) (nmC_ok v3).1 (nmC_ok v3).2 (good_v (chk_ok e F (by simp) h4)) h2 h3
  | .aug i e, st, h => by
    cases st <;> try (simp [chkS] at h; done)
    rename_i tg op x p
    cases tg <;> try (simp [chkS] at h; done)
    cases op <;> try (simp [chkS] at h; done)
    rename_i n pn
    obtain ⟨h0, h⟩ := and2 (show (atC c i n && (stoC c n && chk c (.v .pure) x e x)) = true from h)
    obtain ⟨h1, h2⟩ := and2 h
    obtain ⟨l1, l2⟩ := F.loc h1
    exact n_aug F.rdy (F.at h0) l1 l2 (good_v (chk_ok e F (by simp) h2))
  | .pen1 i e, st, h => by
    cases st <;> try (simp [chkS] at h; done)
    rename_i tgs x p
    match tgs, h with
    | [], h => simp [chkS] at h
    | _ :: _ :: _, h => simp [chkS] at h
    | [tg], h =>
      cases tg <;> try (simp [chkS] at h; done)
      rename_i y z pp
      cases y <;> try (simp [chkS] at h; done)
      cases z <;> try (simp [chkS] at h; done)
      rename_i n p1 v kk p2
      cases v <;> try (simp [chkS] at h; done)
      rename_i j
      obtain ⟨h0, h⟩ := and2 (show (varC c i n && (decide (j = 1) && (noComp x && chk c (.v .pure) x e x))) = true from h)
      obtain ⟨h1, h⟩ := and2 h
      obtain ⟨h2, h3⟩ := and2 h
      obtain ⟨v1, h0⟩ := and2 (show (atC c i n && (visC c n && nmC n)) = true from h0)
      obtain ⟨v2, v3⟩ := and2 h0
      rw [of_decide_eq_true h1]
      exact s_pen false (F.at v1) (F.vis v2) (nmC_ok v3).1 (nmC_ok v3).2 (good_v (chk_ok e F (by simp) h3)) h2
  | .pen2 i e, st, h => by
    cases st <;> try (simp [chkS] at h; done)
    rename_i tgs x p
    match tgs, h with
    | [], h => simp [chkS] at h
    | _ :: _ :: _, h => simp [chkS] at h
    | [tg], h =>
      cases tg <;> try (simp [chkS] at h; done)
      rename_i y z pp
      cases y <;> try (simp [chkS] at h; done)
      cases z <;> try (simp [chkS] at h; done)
      rename_i n p1 v kk p2
      cases v <;> try (simp [chkS] at h; done)
      rename_i j
      obtain ⟨h0, h⟩ := and2 (show (varC c i n && (decide (j = 2) && (noComp x && chk c (.v .pure) x e x))) = true from h)
      obtain ⟨h1, h⟩ := and2 h
      obtain ⟨h2, h3⟩ := and2 h
      obtain ⟨v1, h0⟩ := and2 (show (atC c i n && (visC c n && nmC n)) = true from h0)
      obtain ⟨v2, v3⟩ := and2 h0
      rw [of_decide_eq_true h1]
      exact s_pen true (F.at v1) (F.vis v2) (nmC_ok v3).1 (nmC_ok v3).2 (good_v (chk_ok e F (by simp) h3)) h2
  | .put i k e, st, h => by
    cases st <;> try (simp [chkS] at h; done)
    rename_i tgs x p
    match tgs, h with
    | [], h => simp [chkS] at h
    | _ :: _ :: _, h => simp [chkS] at h
    | [tg], h =>
      cases tg <;> try (simp [chkS] at h; done)
      rename_i o y pp
      cases o <;> try (simp [chkS] at h; done)
      rename_i n p1
      obtain ⟨h0, h⟩ := and2 (show (varC c i n && (nice y && (noComp x && (chk c (.v .pure) y k y && chk c (.v .pure) x e x)))) = true from h)
      obtain ⟨h1, h⟩ := and2 h
      obtain ⟨h2, h⟩ := and2 h
      obtain ⟨h3, h4⟩ := and2 h
      obtain ⟨v1, h0⟩ := and2 (show (atC c i n && (visC c n && nmC n)) = true from h0)
      obtain ⟨v2, v3⟩ := and2 h0
      exact s_put F.rdy (F.at v1) (F.vis v2) (nmC_ok v3).1 (nmC_ok v3).2 (good_v (chk_ok k F (by simp) h3)) (good_v (chk_ok e F (by simp) h4)) h2 (fun v => by cases y <;> first | rfl | (cases h1; done))
  | .mkpen e, st, h => by
    cases st <;> try (simp [chkS] at h; done)
    rename_i o p
    cases o <;> try (simp [chkS, isRetN] at h; done)
    rename_i y
    cases y <;> try (simp [chkS] at h; done)
    rename_i xs p2
    match xs, h with
    | [], h => simp [chkS] at h
    | [_], h => simp [chkS] at h
    | [_, _], h => simp [chkS] at h
    | _ :: _ :: _ :: _ :: _, h => simp [chkS] at h
    | [x, a, b], h =>
      cases a <;> try (simp [chkS] at h; done)
      cases b <;> try (simp [chkS] at h; done)
      rename_i v1 k1 q1 v2 k2 q2
      cases v1 <;> try (simp [chkS] at h; done)
      cases v2 <;> try (simp [chkS] at h; done)
      rename_i j1 j2
      obtain ⟨h0, h⟩ := and2 (show (decide (j1 = 0) && (decide (j2 = 0) && (nice x && chk c (.v .pure) x e x))) = true from h)
      obtain ⟨h1, h⟩ := and2 h
      obtain ⟨h2, h3⟩ := and2 h
      rw [of_decide_eq_true h0, of_decide_eq_true h1]
      exact n_mkpen (good_v (chk_ok e F (by simp) h3)) h2
  | .ife e a b, st, h => by
    cases st <;> try (simp [chkS] at h; done)
    rename_i x as bs p
    obtain ⟨h0, h⟩ := and2 (show (chk c .t x e x && (chkSs c a as && chkSs c b bs)) = true from h)
    obtain ⟨h1, h2⟩ := and2 h
    exact n_if (chk_ok e (m := .t) F (by simp) h0) (chkSs_ok F po fr a h1) (chkSs_ok F po fr b h2)
  | .loop t it b, st, h => by
    cases st <;> try (simp [chkS] at h; done)
    rename_i tg iter body oe p
    cases oe <;> try (simp [chkS] at h; done)
    obtain ⟨h0, h⟩ := and2 (show (nice iter && (chk c (.i .pure) tg it iter && (chkT c t tg && chkSs c b body))) = true from h)
    obtain ⟨h1, h⟩ := and2 h
    obtain ⟨h2, h3⟩ := and2 h
    exact n_loop F.rdy po (chk_ok it (m := .i .pure) F (by simp) h1) (chkT_ok F h2) (chkSs_ok F po fr b h3) h0
  | .while n e b, st, h => by
    cases st <;> try (simp [chkS] at h; done)
    rename_i x body oe p
    cases oe <;> try (simp [chkS] at h; done)
    obtain ⟨h0, h1⟩ := and2 (show (chk c .t x e x && chkSs c b body) = true from h)
    exact n_while po (chk_ok e (m := .t) F (by simp) h0) (chkSs_ok F po fr b h1)
  | .frz _, st, h => by simp [chkS] at h
  | .loopO _ _ _ _, st, h => by simp [chkS] at h
  | .raise k fn es, st, h => raise_ok F h
  | .try_ s k i hd, st, h => try_ok F fr h
theorem chkSs_ok {ex : EX} {HB : Hp} {pb : Option Addr} {X : Cx} {W : WX} {c : Cst} (F : Fit X ex W c) (po : PassesOwn (model X.prog X.w) X.A X.env X.xe) (fr : X.stack = X.env :: X.outer ∧ X.env.frame = some X.env.locals) {L : List Nat} : ∀ (ss : Ss) {sts : List Stmt}, chkSs c ss sts = true → PSs X sts (tSs X.K X.w ex W HB pb L ss)
  | .nil, sts, h => by
    cases sts with
    | nil => exact n_nil
    | cons => simp [chkSs] at h
  | .cons s ss, sts, h => by
    by_cases hf : ∃ i, s = .frz i
    · obtain ⟨i, rfl⟩ := hf
      exact n_frz (chkSs_ok F po fr ss (show chkSs c ss sts = true by cases sts <;> exact h))
    · cases sts with
      | nil => cases s <;> first | (simp [chkSs] at h; done) | exact absurd ⟨_, rfl⟩ hf
      | cons st sts =>
        have h : (chkS c s st && chkSs c ss sts) = true := by cases s <;> first | exact h | exact absurd ⟨_, rfl⟩ hf
        obtain ⟨h1, h2⟩ := and2 h
        exact n_cons (chkS_ok F po fr s h1) (chkSs_ok F po fr ss h2)
end
end Ld
/-! text LdZd -/
set_option Elab.async false
set_option linter.all false
set_option maxRecDepth 100000
set_option maxHeartbeats 8000000
namespace Ld
open PySem PySem.Spec L2
open PyProof.Rows hiding St

/-! ### defs -/
structure Def where
  np : Nat
  ns : Nat
  body : Ss
def slotOf : DV → Option Slot
  | .d x => some (.val x)
  | .pen => some .pen
def startD (n : Nat) (xs : List DV) : Env' := xs.map slotOf ++ List.replicate (n - xs.length) none
def endD : Fl → M DV
  | .rt x => rt x
  | .nx _ => rt (.d .none)
  | _ => no
def runD [Fs] (d : Def) : Fun := fun xs => match decide (xs.length = d.np) with
  | true => bnd (evSs d.body [] (startD d.ns xs)) endD
  | false => no
/-- the defs of a text, n calls deep -/
def Phi (T : List (Str × Def)) : Nat → Str → Fun
  | 0, _ => fun _ => no
  | n + 1, f => match T.lookup f with
    | some d => @runD ⟨Phi T n⟩ d
    | none => fun _ => no
section
variable {P : Program} {w : World} {K : PySem.W.Frag} {mg : Str → Option Value} {base : Heap} {ex : EX}
theorem map_at {xs : List DV} {vs : List V} {H : Hp} {pa : Option Addr} (h : DvAll .pure K w H pa xs vs) : ∀ (i : Nat) (s : Slot), (xs.map slotOf)[i]? = some (some s) → ∃ v, vs[i]? = some v ∧ (match s with
    | .val d => Rp K w H d v
    | .own _ => False
    | .pen => ∃ a, pa = some a ∧ v = .ref a) := by
  induction h with
  | nil => intro i s h; simp at h
  | @cons x v _ _ a _ ih =>
    intro i s h
    cases i with
    | zero =>
      simp only [List.map_cons, List.getElem?_cons_zero, Option.some.injEq] at h
      refine ⟨v, rfl, ?_⟩
      cases x with
      | d d =>
        have h : some (Slot.val d) = some s := h
        cases h
        exact a
      | pen =>
        have h : some Slot.pen = some s := h
        cases h
        exact a
    | succ i =>
      obtain ⟨u, h1, h2⟩ := ih i s (by simpa using h)
      exact ⟨u, by simpa using h1, h2⟩
theorem startD_ok {xs : List DV} {vs : List V} {H : Hp} {pa : Option Addr} {g : G} {N : List Str} {n : Nat} (h : DvAll .pure K w H pa xs vs) (p : PenOk K w H pa g) (hn : N.length = n) : StOk K w H pa (start N vs) H pa (startD n xs) g := by
  have hl := Paired.length h
  have key : ∀ (i : Nat) (s : Slot), (startD n xs)[i]? = some (some s) → ∃ v, (start N vs)[i]? = some (some v) ∧ (match s with
    | .val d => Rp K w H d v
    | .own _ => False
    | .pen => ∃ a, pa = some a ∧ v = .ref a) := fun i s hs => by
    unfold startD at hs
    by_cases hi : i < xs.length
    · rw [List.getElem?_append_left (by simpa using hi)] at hs
      obtain ⟨v, h1, h2⟩ := map_at h i s hs
      refine ⟨v, ?_, h2⟩
      unfold L2.start
      rw [List.getElem?_append_left (by rw [List.length_map, ← hl]; exact hi), List.getElem?_map, h1]
      rfl
    · rw [List.getElem?_append_right (by simpa using hi), List.getElem?_replicate] at hs
      split at hs <;> cases hs
  exact {
    len := by
      unfold L2.start startD
      simp only [List.length_append, List.length_map, List.length_replicate, hn, hl]
    slot := fun i s hs => by
      obtain ⟨v, h1, h2⟩ := key i s hs
      refine ⟨v, h1, ?_⟩
      cases s with
      | val d => exact h2
      | own d => exact h2.elim
      | pen => exact h2
    apart := fun i j x y _ h1 _ => by
      obtain ⟨_, _, h⟩ := key i _ h1
      exact h.elim
    base := Stp.refl p }
/-- the text of a def -/
structure DefAt (K : PySem.W.Frag) (mg : Str → Option Value) (T : Tab) (n : Str) (d : Def) (f : Addr) (fd : FuncData) (ps : List Str) : Prop where
  txt : ∃ (name qual : Str) (params : Arguments) (body : List Stmt) (scope : Scope) (dV kV doc pm cdv ct oc : Value) (an od : Option Addr) (osl : Array (Option Value)) (N : List Str),
    K.lookup f = some ⟨oc, od, .func (PySem.W.fnOf name qual params body scope dV kV doc pm an cdv ct), osl⟩ ∧ PySem.W.codeIn K cdv qual = true ∧ fd = PySem.W.fnOf name qual params body scope dV kV doc pm an cdv ct ∧ FnScope N ps scope ∧ N.length = d.ns ∧
    chkSs ⟨N, scope, none, T⟩ d.body body = true
  np : ps.length = d.np
  mg : mg n = some (.ref f)
  kp : PySem.W.keepIn K (.ref f) = true
  bd : Binds K fd ps []
theorem def_ok [Fs] {T : Tab} {n : Str} {d : Def} {f : Addr} {fd : FuncData} {ps : List Str} {k : Nat} (D : DefAt K mg T n d f fd ps) (sys : ∃ o, base.get? sysModules = some o ∧ o.cls = .type "dict") (blt : ∀ x, x ∈ T.blts → mg x = none)
    (glb : ∀ x v, (x, v) ∈ T.globs → (∃ u v', mg x = some u ∧ RelV v' u ∧ ∀ H, Rp K w H v v') ∧ mutD (.d v) = false)
    (cal : ∀ x np, (x, np) ∈ T.cals → ∃ (f : Addr) (fd : FuncData) (ps : List Str), ps.length = np ∧ FnG P w K mg base (CX P w) k f fd ps (spD K w ex (Fs.f x) np) ∧ mg x = some (.ref f) ∧ PySem.W.keepIn K (.ref f) = true ∧ Binds K fd ps [])
    (exc : ∀ x c fn ib, (x, c, fn, ib) ∈ T.excs → ∃ C fI fd ps, ExRd K mg ex x c fn ib w C ∧ ExMk P w K mg base fn C 1 fI fd ps) (hk2 : 2 ≤ k) :
    FnG P w K mg base (CX P w) (k + 1) f fd ps (spD K w ex (runD d) d.np) := by
  obtain ⟨name, qual, params, body, scope, dV, kV, doc, pm, cdv, ct, oc, an, od, osl, N, lk, hcd, rfl, S, hN, hchk⟩ := D.txt
  refine fnG_of lk hcd S (fun vs H Q E h => by rw [h.1, D.np]) fun A outer s H vs Q E room gd h => ?_
  obtain ⟨hl, xs, g, pa, pen, dv, p⟩ := h
  have hk : N.Nodup := S.nd
  have F : Fit (cxOf (CX P w) P w K mg base N qual scope f cdv A outer s H E) ex (fun C d _ H' => E C d H') ⟨N, scope, none, T⟩ := {
    rdy := ⟨by have := room.un; show A.units + 3 + 200 < cLine; have h2 : (A.deeper (envOfC qual scope s.heap.objs.size f cdv)).units = A.units + 3 := rfl; omega, rfl, S.nd, gd, sys⟩
    tk := takes_of (E := E) (E₁ := fun e' s'' => CX P w outer H s E e' s'') rfl rfl rfl rfl
    N := rfl
    sc := rfl
    kind := S.kind
    fn := fun _ _ => rfl
    cal := fun x np hx => by
      obtain ⟨f', fd', ps', h1, h2, h3, h4, h5⟩ := cal x np hx
      exact ⟨k, f', fd', ps', h1, h2, room, h3, h4, h5⟩
    blt := blt
    glb := fun x v hx => ⟨(glb x v hx).1, (glb x v hx).2⟩
    exc := fun x c fn ib hx => by
      obtain ⟨C, fI, fd', ps', h1, h2⟩ := exc x c fn ib hx
      exact ⟨C, 1, fI, fd', ps', h1, h2, room.mono hk2⟩ }
  refine ⟨_, chkSs_ok (HB := H) (pb := pa) (L := []) F (passes_of rfl) ⟨rfl, rfl⟩ d.body hchk, startD d.ns xs, g, pa, startD_ok dv pen hN, ?_⟩
  have hx : xs.length = d.np := by rw [Paired.length dv, hl]
  unfold runD at p
  rw [decide_eq_true hx] at p
  dsimp only at p
  unfold bnd at p
  show postS K w ex (fun C d _ H' => E C d H') H pa [] (start N vs) H _ _
  cases q : evSs d.body [] (startD d.ns xs) g with
  | no => rw [q] at p; exact p.elim
  | exc c fs g' =>
    rw [q] at p
    exact fun C d σ' H' pa' δ' S' hx => p C d H' pa' S'.base hx
  | ok fl g' =>
    rw [q] at p
    cases fl with
    | rt x => exact fun v H' pa' st dx => p v H' pa' st dx fun e => by cases e
    | nx δ' => exact fun σ' H' pa' S' _ => p .non H' pa' S'.base .none fun e => by cases e
    | bk δ' => exact p.elim
    | ct δ' => exact p.elim
/-- all defs of a text, n calls deep -/
theorem all_ok {T : Tab} {defs : List (Str × Def)} (sys : ∃ o, base.get? sysModules = some o ∧ o.cls = .type "dict") (blt : ∀ x, x ∈ T.blts → mg x = none)
    (glb : ∀ x v, (x, v) ∈ T.globs → (∃ u v', mg x = some u ∧ RelV v' u ∧ ∀ H, Rp K w H v v') ∧ mutD (.d v) = false)
    (tab : ∀ x np, (x, np) ∈ T.cals → ∃ d, defs.lookup x = some d ∧ d.np = np) (txt : ∀ x d, defs.lookup x = some d → ∃ f fd ps, DefAt K mg T x d f fd ps)
    (exc : ∀ x c fn ib, (x, c, fn, ib) ∈ T.excs → ∃ C fI fd ps, ExRd K mg ex x c fn ib w C ∧ ExMk P w K mg base fn C 1 fI fd ps) :
    ∀ (n : Nat) (x : Str) (d : Def), defs.lookup x = some d → ∃ (f : Addr) (fd : FuncData) (ps : List Str), DefAt K mg T x d f fd ps ∧ FnG P w K mg base (CX P w) (n + 2) f fd ps (spD K w ex (Phi defs n x) d.np)
  | 0, x, d, h => by
    obtain ⟨f, fd, ps, D⟩ := txt x d h
    refine ⟨f, fd, ps, D, fun vs H Q E h => by rw [h.1, D.np], fun A outer s H args us vs Q E _ _ _ _ _ hs => ?_⟩
    obtain ⟨_, xs, g, pa, _, _, p⟩ := hs
    exact p.elim
  | n + 1, x, d, h => by
    obtain ⟨f, fd, ps, D⟩ := txt x d h
    have e : Phi defs (n + 1) x = @runD ⟨Phi defs n⟩ d := by
      show (match defs.lookup x with | some d => @runD ⟨Phi defs n⟩ d | none => fun _ => no) = _
      rw [h]
    rw [e]
    letI : Fs := ⟨Phi defs n⟩
    refine ⟨f, fd, ps, D, def_ok (k := n + 2) D sys blt glb (fun y np hy => ?_) exc (Nat.le_add_left 2 n)⟩
    obtain ⟨d', hd, rfl⟩ := tab y np hy
    obtain ⟨f', fd', ps', D', F'⟩ := all_ok sys blt glb tab txt exc n y d' hd
    exact ⟨f', fd', ps', D'.np, F', D'.mg, D'.kp, D'.bd⟩
end
end Ld
/-! text LdZe -/
set_option Elab.async false
set_option linter.all false
set_option maxRecDepth 100000
set_option maxHeartbeats 8000000
namespace Ld
open PySem PySem.Spec L2
open PyProof.Rows hiding St

/-! ### the head -/
/-- sys.modules is among what is seen, and a dict -/
def sysB (K : PySem.W.Frag) : Bool := match K.lookup sysModules with
  | some o => (match o.cls with
    | .type n => decide (n = "dict")
    | _ => false)
  | none => false
theorem sysB_ok {K : PySem.W.Frag} (h : sysB K = true) : ∃ o, K.lookup sysModules = some o ∧ o.cls = .type "dict" := by
  unfold sysB at h
  cases q : K.lookup sysModules with
  | none => rw [q] at h; cases h
  | some o =>
    rw [q] at h
    dsimp only at h
    refine ⟨o, rfl, ?_⟩
    cases e : o.cls with
    | type n =>
      rw [e] at h
      rw [of_decide_eq_true (show decide (n = "dict") = true from h)]
    | _ => rw [e] at h; cases h
def frS (n : Nat) (g : Addr → Option Obj) : PySem.W.Frag := He.frG g (sysModules :: He.asD g n)
def obsS (n : Nat) (fa : List He.Fa) (fn : List He.DefD) (xb : PySem.W.Frag → Bool) (g : Addr → Option Obj) : Bool × He.AlD := (sysB (frS n g) && xb (frS n g), He.obsD fa fn (frS n g))
def hookS (n : Nat) (fa : List He.Fa) (fn : List He.DefD) (xb : PySem.W.Frag → Bool) : PySem.W.Hook where
  α := Bool × He.AlD
  obs := fun s => obsS n fa fn xb s.heap.get?
  val := fun _ => (true, He.valD fn)
  says := fun _ h => ∃ K : PySem.W.Frag, K.In h ∧ He.SaysD fa fn K ∧ sysB K = true ∧ xb K = true
  of := fun _ _ e => ⟨_, He.frG_in, congrArg Prod.snd e, Bool.and_eq_true_iff.mp (congrArg Prod.fst e)⟩
  keeps := fun _ _ _ ⟨K, hK, c, d⟩ k => ⟨K, PySem.W.Frag.In.keeps hK k, c, d⟩
theorem obsS_eq {n : Nat} {fa : List He.Fa} {fn : List He.DefD} {xb : PySem.W.Frag → Bool} {g : Addr → Option Obj} {s : Shared} (h : ∀ a, g a = s.heap.get? a) : obsS n fa fn xb g = (hookS n fa fn xb).obs s := by
  have e : g = s.heap.get? := funext h
  rw [e]
  rfl
section
variable {P : Program} {w : World} {K : PySem.W.Frag} {mg mb : Str → Option Value} {k : Nat} {fa a : Addr} {fd : FuncData} {x : Str} {s₁ : Shared} {vs : List Value} {ns : List Int} {F : Fun} {ex : EX}
theorem rp_ints {H : Hp} : ∀ ns : List Int, RpA K w H (ns.map .int) (ns.map V.int)
  | [] => .nil
  | n :: ns => .cons (.int n) (rp_ints ns)
/-- the law is called with its script, which is pure data; nothing else is tracked -/
theorem law_run {H : Hp} (KX : K.In s₁.heap) (hns : s₁.heap.Ns mainGlobals mg) (hb : s₁.heap.Ns builtinsNs mb) (hbb : ∀ x : Str, x ≠ "__name__" → mb x = bootBuiltins x) (hlim : s₁.heap.NoLimit) (hg : s₁.gens = #[]) (room : Room k callerA)
    (H1 : ∀ b u, H b = some u → b = a ∧ s₁.heap.get? b = some { cls := .type "list", data := .seq vs.toArray } ∧ u = .frz { cls := .type "list", data := .seq vs.toArray } (.lst (ns.map V.int))) (H2 : H a ≠ none → K.lookup a = none) (ha : s₁.heap.get? a = some { cls := .type "list", data := .seq vs.toArray }) (hi : IntsAre vs ns) (hl : ns.length ≤ sizeLine)
    (Fn : ∀ base : Heap, K.In base → base.Ns mainGlobals mg → FnG P w K mg base (CX P w) k fa fd [x] (spD K w ex F 1)) (bind : ∀ (s : Shared) (u : Value), BindsTo s fd ⟨[u], []⟩ [(x, u)]) (sq : FrzL K H a (ns.map V.int)) (ans : ∃ g', F [.d (.list (ns.map .int))] none = .ok (.d (.bool true)) g') :
    codeAny (model P w) callerA (.call (.ref fa) ⟨[.ref a], []⟩) (fun r s' => r = .ok (.ret (.bool true)) ∧ OldK s₁.heap s'.heap ∧ s'.os = s₁.os ∧ AllBare s'.gens) s₁ := by
  have rv := vals_ints hi
  -- what is not tracked is the base
  have un : ∀ b o, s₁.heap.get? b = some o → (∀ its n, o.data ≠ .seq its n) → H b = none := fun b o e d => by
    cases q : H b with
    | none => rfl
    | some u =>
      obtain ⟨_, e2, _⟩ := H1 b u q
      rw [e] at e2
      cases e2
      exact absurd rfl (d _ _)
  have ns_ : ∀ b m, s₁.heap.Ns b m → (hidT s₁.heap H).Ns b m := fun b m ⟨o, es, ep, e, d, r⟩ => ⟨o, es, ep, hidT_get e (un b o e fun its n z => by rw [d] at z; cases z), d, r⟩
  have kb : K.In (hidT s₁.heap H) := fun b o e => hidT_get (KX b o e) (by
    cases q : H b with
    | none => rfl
    | some u =>
      obtain ⟨rfl, _, _⟩ := H1 b u q
      rw [H2 (by rw [q]; simp)] at e
      cases e)
  have ok : HOk P w H s₁.heap := fun b u q => by
    obtain ⟨rfl, e, rfl⟩ := H1 b u q
    exact ⟨e, by rw [List.length_map]; exact hl, vs, _, rv, e⟩
  have md : Mod K mg (hidT s₁.heap H) := ⟨kb, ns_ _ _ hns, ⟨mb, ns_ _ _ hb, hbb⟩, let ⟨mc, h1, h2⟩ := hlim; ⟨mc, ns_ _ _ h1, h2⟩⟩
  have e0 : Env0 P w K mg (hidT s₁.heap H) callerA [] s₁ H := ⟨rfl, md, fun b o e => of_hidT e, Nat.le_of_eq (hidT_size _ _), trivial, (fun b z => nomatch z), ok, .of_eq hg⟩
  obtain ⟨g', ans⟩ := ans
  have sp : spD K w ex F 1 [.ref a] H (fun v _ => v = .bl true) fun _ _ _ => False := by
    refine ⟨rfl, [.d (.list (ns.map .int))], none, none, rfl, .cons (Rp.lst sq (rp_ints ns)) .nil, ?_⟩
    rw [ans]
    intro v H' pa' _ dv _
    cases (show Rp K w H' (.bool true) v from dv)
    rfl
  refine codeAny_mono ((Fn _ kb (ns_ _ _ hns)).run callerA [] s₁ H ⟨[.ref a], []⟩ [.ref a] [.ref a] _ _ room rfl e0 (bind s₁ (.ref a)) (.cons rfl .nil) sp) fun r s' out => ?_
  match r, out with
  | .error e, out =>
    obtain ⟨_, _, _, _, _, _, _, _, _, _, _, _, z⟩ := out
    exact z.elim
  | .ok (.ret u), out =>
    obtain ⟨v, H', os, bare, un2, ok2, rv2, e⟩ := out
    have e : v = .bl true := e
    subst e
    have e2 : u = Value.bool true := rv2
    subst e2
    refine ⟨rfl, OldK.of_keep fun b o e => ?_, os, bare⟩
    cases q : H b with
    | none => exact un2.keep b o e q (fun z => nomatch z) (by simp)
    | some u =>
      obtain ⟨_, e2, rfl⟩ := H1 b u q
      obtain ⟨e3, _⟩ := ok2 b _ (un2.frzs b _ _ q)
      rw [e] at e2
      cases e2
      exact e3
theorem law_at (KX : K.In s₁.heap) (hns : s₁.heap.Ns mainGlobals mg) (hb : s₁.heap.Ns builtinsNs mb) (hbb : ∀ x : Str, x ≠ "__name__" → mb x = bootBuiltins x) (hlim : s₁.heap.NoLimit) (hg : s₁.gens = #[]) (room : Room k callerA)
    (ha : s₁.heap.get? a = some { cls := .type "list", data := .seq vs.toArray }) (hi : IntsAre vs ns) (hl : ns.length ≤ sizeLine)
    (Fn : ∀ base : Heap, K.In base → base.Ns mainGlobals mg → FnG P w K mg base (CX P w) k fa fd [x] (spD K w ex F 1)) (bind : ∀ (s : Shared) (u : Value), BindsTo s fd ⟨[u], []⟩ [(x, u)]) (ans : ∃ g', F [.d (.list (ns.map .int))] none = .ok (.d (.bool true)) g') :
    codeAny (model P w) callerA (.call (.ref fa) ⟨[.ref a], []⟩) (fun r s' => r = .ok (.ret (.bool true)) ∧ OldK s₁.heap s'.heap ∧ s'.os = s₁.os ∧ AllBare s'.gens) s₁ := by
  cases hk : K.lookup a with
  | some o =>
    have e := KX a o hk
    rw [ha] at e
    cases e
    exact law_run (H := fun _ => none) KX hns hb hbb hlim hg room (fun b u z => by cases z) (fun z => absurd rfl z) ha hi hl Fn bind (.inr ⟨vs, _, hk, by rw [List.length_map]; exact hl, vals_ints hi⟩) ans
  | none =>
    refine law_run (H := fun b => if b = a then some (.frz { cls := .type "list", data := .seq vs.toArray } (.lst (ns.map V.int))) else none) KX hns hb hbb hlim hg room (fun b u z => ?_) (fun _ => hk) ha hi hl Fn bind (.inl ⟨_, if_pos rfl⟩) ans
    by_cases e : b = a
    · subst e
      have z := (if_pos rfl).symm.trans z
      cases z
      exact ⟨rfl, ha, rfl⟩
    · have z := (if_neg e).symm.trans z
      cases z
end
/-- the walk of a law, from what its def does to data -/
theorem walk_G {l : PySem.W.OpenLaw} {n k : Nat} {q : Program} {loose : List Str} {XP : (Str → Option Value) → Heap → Prop} {YP : World → Heap → Prop} {d : DefRec} {x : Str} {ex : World → PySem.W.Frag → EX} {F : Fun} (hn : l.most = some n) (hn2 : n ≤ sizeLine) (hdf : d.params.defaults = []) (room : Room k callerA)
    (facts : ∀ (w : World) (mg : Str → Option Value) (fa : Addr) (h : Heap), YP w h → h.Ns mainGlobals mg → mg d.name = some (.ref fa) →
      ∃ (K : PySem.W.Frag) (fd : FuncData), K.In h ∧ (∀ (s : Shared) (u : Value), BindsTo s fd ⟨[u], []⟩ [(x, u)]) ∧ ∀ base : Heap, K.In base → base.Ns mainGlobals mg → FnG l.prog w K mg base (CX l.prog w) k fa fd [x] (spD K w (ex w K) F 1))
    (ans : ∀ ns : List Int, ns.length ≤ n → (∀ z ∈ ns, Builtin.Int.intBits z ≤ 1048576) → ∃ g', F [.d (.list (ns.map .int))] none = .ok (.d (.bool true)) g') :
    PySem.W.WalkO q loose XP YP l.row.toRowW d [] (fun f vs => PySem.call f vs) := by
  refine Att.attach_callB hn hdf fun w s₀ s₁ mg mb fa o pm cd doc a vs ns G Y _ _ _ hmg hobj hints hlen hbits hg => ?_
  obtain ⟨K, fd, KX, bind, Fn⟩ := facts w mg fa _ Y G.T.g hmg
  exact law_at KX G.T.g G.T.b G.T.builtins G.T.nolimit hg room hobj hints (Nat.le_trans hlen hn2) Fn bind (ans ns hlen hbits)
end Ld
/-! text LdZf -/
set_option Elab.async false
set_option linter.all false
set_option maxRecDepth 100000
set_option maxHeartbeats 8000000
namespace Ld
open PySem PySem.Spec L2
open PyProof.Rows hiding St

/-! ### the facts of a text, from the head -/
theorem an2 {a b : Bool} (h : (a && b) = true) : a = true ∧ b = true := by rwa [Bool.and_eq_true] at h
theorem strsEq_eq0 {a b : List Str} (h : strsEq a b = true) : a = b := @strsEq_eq ⟨fun _ _ => no⟩ a b h
def localOk (sc : Scope) (x : Str) : Bool := match sc.names.lookup x with
  | some .local => true
  | some .cell => true
  | _ => false
def fnScB (N ps : List Str) (sc : Scope) : Bool := decide (sc.kind = .function) && (!sc.isCoroutine && (!sc.isGenerator && (decide N.Nodup && (strsEq (N.take ps.length) ps && ((ps.all fun x => localOk sc x) && sc.names.all fun y => decide (y.2 ≠ .free))))))
theorem fnScB_ok {N ps : List Str} {sc : Scope} (h : fnScB N ps sc = true) : FnScope N ps sc := by
  obtain ⟨h1, h⟩ := an2 h
  obtain ⟨h2, h⟩ := an2 h
  obtain ⟨h3, h⟩ := an2 h
  obtain ⟨h4, h⟩ := an2 h
  obtain ⟨h5, h⟩ := an2 h
  obtain ⟨h6, h7⟩ := an2 h
  refine ⟨of_decide_eq_true h1, by simpa using h2, by simpa using h3, of_decide_eq_true h4, strsEq_eq0 h5, fun x hx => ?_, fun y hy => of_decide_eq_true (List.all_eq_true.mp h7 y hy)⟩
  have q := List.all_eq_true.mp h6 x hx
  unfold localOk at q
  split at q
  · rename_i e; exact .inl e
  · rename_i e; exact .inr e
  · cases q
/-- all that is decided of a def's text -/
def txtB (T : Tab) (N ps : List Str) (d : Def) (dd : He.DefD) : Bool := fnScB N ps dd.scope && (decide (N.length = d.ns) && (decide (ps.length = d.np) && (dd.dfl.isEmpty && (dd.kwd.isEmpty && chkSs ⟨N, dd.scope, none, T⟩ d.body dd.body))))
section
variable {P : Program} {w : World} {K : PySem.W.Frag} {mg : Str → Option Value} {base h : Heap}
theorem defAt_of {T : Tab} {n : Str} {d : Def} {N ps : List Str} {dd : He.DefD} {f : Addr} {fd : FuncData} (F : FunD K dd.name dd.qual dd.params dd.body dd.scope (dd.dvs K) (dd.kws K) f fd) (hmg : mg n = some (.ref f)) (q : txtB T N ps d dd = true) (hb : Binds K fd ps []) : DefAt K mg T n d f fd ps := by
  obtain ⟨h1, q⟩ := an2 q
  obtain ⟨h2, q⟩ := an2 q
  obtain ⟨h3, q⟩ := an2 q
  obtain ⟨h4, q⟩ := an2 q
  obtain ⟨h5, h6⟩ := an2 q
  obtain ⟨oc, od, dV, kV, doc, pm, an, cdv, ct, osl, e, lk, hcd, _, _⟩ := F.ex
  refine ⟨⟨dd.name, dd.qual, dd.params, dd.body, dd.scope, dV, kV, doc, pm, cdv, ct, oc, an, od, osl, N, ?_, hcd, e, fnScB_ok h1, of_decide_eq_true h2, h6⟩, of_decide_eq_true h3, hmg, F.kp, hb⟩
  rw [e] at lk
  exact lk
/-- names of the module that are no defs -/
def globB (K : PySem.W.Frag) : Str × PyData → Bool
  | (x, .int i) => (He.Fa.int x i).ok K
  | (x, .str z) => (He.Fa.str x z).ok K
  | _ => false
theorem globB_ok (X : K.In h) (G : h.Ns mainGlobals mg) {x : Str} {v : PyData} (q : globB K (x, v) = true) : (∃ u v', mg x = some u ∧ RelV v' u ∧ ∀ H, Rp K w H v v') ∧ mutD (.d v) = false := by
  cases v with
  | int i =>
    obtain ⟨t, e⟩ := He.int_ok X G (x := x) (i := i) q
    exact ⟨⟨_, .int i, e, ⟨t, rfl⟩, fun H => .int i⟩, rfl⟩
  | str z =>
    obtain ⟨t, e⟩ := He.str_ok X G (x := x) (z := z) q
    exact ⟨⟨_, .str z, e, ⟨t, rfl⟩, fun H => .str z⟩, rfl⟩
  | _ => cases q
/-! ### classes of errors -/
def exOf (cl : List Str) (w : World) (K : PySem.W.Frag) : EX := fun c fs H C d => ∃ nm, cl[c]? = some nm ∧ C = .ref (He.ga K nm) ∧ exD K w fs H d
def ibB (K : PySem.W.Frag) (C : Addr) (p : Str × Bool) : Bool := match excNm p.1 with
  | some n => decide (PySem.W.kitOne K (.ref C) (.type n) = some p.2)
  | none => false
def exRdB (K : PySem.W.Frag) (cl : List Str) (x : Str) (c : Nat) (fn : List Str) (ib : List (Str × Bool)) : Bool := decide (cl[c]? = some x) && ((He.Fa.glo x).ok K && (xfB K (He.ga K x) && ((fn.all fun f => decide (PySem.W.findIn K (.ref (He.ga K x)) f = some none)) && ((PySem.W.clsIn K (He.ga K x)).isSome &&
  (decide (PySem.W.findIn K (.ref (He.ga K x)) "__class__" = some (some (.builtin "object.__class__"))) && (decide (PySem.W.specialIn K (.builtin "object.__class__") "__get__" = some (some (.builtin "getset_descriptor.__get__"))) && (decide (PySem.W.takesIn K (.builtin "object.__class__") = some true) &&
  (decide (PySem.W.mroIn K (He.ga K x) (.type "object") = some true) && ((ib.all fun p => ibB K (He.ga K x) p) && (List.range cl.length).all fun c' => match cl[c']? with
    | some y => decide (PySem.W.exmOne K (.ref (He.ga K y)) (.ref (He.ga K x)) = some (decide (c = c')))
    | none => true)))))))))
theorem exRd_of {cl : List Str} {x : Str} {c : Nat} {fn : List Str} {ib : List (Str × Bool)} (X : K.In h) (G : h.Ns mainGlobals mg) (q : exRdB K cl x c fn ib = true) : ExRd K mg (exOf cl w K) x c fn ib w (He.ga K x) := by
  obtain ⟨h1, q⟩ := an2 q
  obtain ⟨h2, q⟩ := an2 q
  obtain ⟨h3, q⟩ := an2 q
  obtain ⟨h4, q⟩ := an2 q
  obtain ⟨h5, q⟩ := an2 q
  obtain ⟨h6, q⟩ := an2 q
  obtain ⟨h7, q⟩ := an2 q
  obtain ⟨h8, q⟩ := an2 q
  obtain ⟨h9, q⟩ := an2 q
  obtain ⟨h10, h11⟩ := an2 q
  have h1 := of_decide_eq_true h1
  exact {
    mg := He.glo_ok X G h2
    is := fun {fs H C' d} => ⟨fun ⟨nm, e, e2, e3⟩ => by rw [h1] at e; cases e; exact ⟨e2, e3⟩, fun ⟨e2, e3⟩ => ⟨x, h1, e2, e3⟩⟩
    xf := xfB_ok h3
    no := fun f hf => of_decide_eq_true (List.all_eq_true.mp h4 f hf)
    cl := h5
    ca := of_decide_eq_true h6
    cn := of_decide_eq_true h7
    ct := of_decide_eq_true h8
    cm := of_decide_eq_true h9
    ib := fun b v hb => by
      have z := List.all_eq_true.mp h10 (b, v) hb
      unfold ibB at z
      split at z
      · rename_i n e
        exact ⟨n, e, of_decide_eq_true z⟩
      · cases z
    exm := fun {c' fs H C' d} ⟨nm, e, e2, e3⟩ => by
      subst e2
      have hl : c' < cl.length := by
        rcases Nat.lt_or_ge c' cl.length with h | h
        · exact h
        · rw [List.getElem?_eq_none h] at e; cases e
      have z := List.all_eq_true.mp h11 c' (List.mem_range.mpr hl)
      rw [e] at z
      exact of_decide_eq_true z }
/-- a class over ValueError with an own __init__ -/
def oexB (K : PySem.W.Frag) (C fI : Addr) : Bool := (match K.lookup C with
    | some ⟨.type "type", _, .cls cd, sl⟩ => (match cd.mro, sl.toList with
      | .ref C' :: bm, [_, _, _, _, some (.builtin n), _] => decide (C' = C) && (decide (n = "ValueError.__new__") && (!cd.hasDel && (cd.hasDict && PySem.HandSPX.refsVE bm)))
      | _, _ => false)
    | _ => false) && (decide (PySem.W.findIn K (.ref C) "__setattr__" = some (some (.builtin "object.__setattr__"))) && (decide (PySem.W.subIn K (.ref C) (.type "BaseException") = some true) && (decide (PySem.W.typeIn K (.ref C) = some (.type "type")) && (PySem.W.keepIn K (.ref C) &&
    (decide (PySem.W.findIn K (.ref C) "__init__" = some (some (.ref fI))) && decide (PySem.W.typeIn K (.ref fI) = some (.type "function")))))))
theorem oex_of {C fI : Addr} (q : oexB K C fI = true) : OexC K C ∧ PySem.W.findIn K (.ref C) "__init__" = some (some (.ref fI)) ∧ PySem.W.typeIn K (.ref fI) = some (.type "function") := by
  obtain ⟨h1, q⟩ := an2 q
  obtain ⟨h2, q⟩ := an2 q
  obtain ⟨h3, q⟩ := an2 q
  obtain ⟨h4, q⟩ := an2 q
  obtain ⟨h5, q⟩ := an2 q
  obtain ⟨h6, h7⟩ := an2 q
  refine ⟨⟨?_, of_decide_eq_true h2, of_decide_eq_true h3, of_decide_eq_true h4, h5⟩, of_decide_eq_true h6, of_decide_eq_true h7⟩
  split at h1
  · rename_i dd cd sl ho
    split at h1
    · rename_i C' bm k0 k1 k2 k3 n k5 hm hs
      obtain ⟨e1, h1⟩ := an2 h1
      obtain ⟨e2, h1⟩ := an2 h1
      obtain ⟨e3, h1⟩ := an2 h1
      obtain ⟨e4, e5⟩ := an2 h1
      have e1 := of_decide_eq_true e1
      have e2 := of_decide_eq_true e2
      subst e1 e2
      obtain ⟨nm, bs, mro, ns, qn, hd, sn, sub, ab, col, del⟩ := cd
      dsimp only at hm e3 e4
      have e3 : del = false := by simpa using e3
      subst hm e3 e4
      have hsl : sl = #[k0, k1, k2, k3, some (.builtin "ValueError.__new__"), k5] := by
        obtain ⟨l⟩ := sl
        simp only at hs
        rw [hs]
      subst hsl
      exact ⟨nm, qn, ns, bs, bm, sn, sub, ab, col, dd, k0, k1, k2, k3, k5, ho, e5⟩
    · cases h1
  · cases h1
theorem ve_init (K : PySem.W.Frag) : PySem.W.findCls K (.type "ValueError") (.type "type") "__init__" = some (.val (.builtin "ValueError.__init__")) := by kernel_rfl
/-- __init__(self, f): ValueError.__init__(self, ..); self.f = f -/
theorem init_ok {C fI : Addr} {fd : FuncData} {qual x f : Str} {params : Arguments} {scope : Scope} {k1 : Nat} {p1 p2 p3 p4 p5 p6 p7 p8 p9 p10 : Pos}
    (F : FunD K "__init__" qual params [.Expr (.Call (.Attribute (.Name "ValueError" p1) "__init__" p2) [.Name "self" p3, .Constant (.str x) k1 p4] [] p5) p6, .Assign [.Attribute (.Name "self" p7) f p8] (.Name f p9) p10] scope [] [] fI fd)
    (T : OexC K C) (hno : PySem.W.findIn K (.ref C) f = some none) (S : FnScope ["self", f] ["self", f] scope) (hv : mg "ValueError" = none) (l1 : scope.names.lookup ("ValueError" : Str) = some NameKind.globalImplicit) (l2 : scope.names.lookup ("self" : Str) = some NameKind.local) (l3 : scope.names.lookup f = some NameKind.local) (hf : (f == ("__debug__" : Str)) = false) (hf2 : (f == ("__classdict__" : Str)) = false)
    {pl : Env → Sem Bool} (hc : ∀ env : Env, eval (.Call (.Attribute (.Name "ValueError" p1) "__init__" p2) [.Name "self" p3, .Constant (.str x) k1 p4] [] p5) env = (do
      let ov ← eval (.Name "ValueError" p1) env
      standAt p2.atName
      let (f, first) ← holding [ov] (getMethod ov "__init__" (pl env))
      callWith p5 f first (backTo p5 (starEach [.Name "self" p3, .Constant (.str x) k1 p4] env)) (backToKw p5 (keywordEach [] env)))) : FnOk P w K mg base (L2.CX P w) 1 fI fd ["self", f] (spI C [f]) := by
  refine F.ok S (fun vs H Q E h => ?_) fun cdv A outer s H vs Q E hr h => ?_
  · obtain ⟨a, ws, rfl, h2, _⟩ := h
    rw [List.length_cons, h2]
    rfl
  · have A0 := pe_veinit (X := cxOf (L2.CX P w) P w K mg base ["self", f] qual scope fI cdv A outer s H E) (p1 := p1) (p2 := p2) (pos := p5) l1 hv (ve_init K) (pa_cons (pe_var (i := 0) rfl (.inl l2) (by decide) (by decide)) (pa_cons (pe_str (x := x) (j := k1) (pos := p4)) pa_nil)) (hc _) rfl rfl
    have A1 := ps_expr (pos := p6) A0 rfl
    have A2 := ps_ost (X := cxOf (L2.CX P w) P w K mg base ["self", f] qual scope fI cdv A outer s H E) (f := f) (p' := p8) (pos := p10) (pe_var (i := 0) (x := "self") (pos := p7) rfl (.inl l2) (by decide) (by decide)) (pe_var (i := 1) (x := f) (pos := p9) rfl (.inl l3) hf hf2) rfl
    refine ⟨_, pss_cons A1 (pss_one A2), ?_⟩
    obtain ⟨a, ws, rfl, h2, h3, h4⟩ := h
    match ws, h2 with
    | [y], _ =>
      refine ⟨_, rfl, a, C, _, rfl, (by simp), T, h3, ?_⟩
      refine ⟨_, rfl, _, rfl, a, C, rfl, T, hno, .inl ⟨h3, fun dx nd nda => ?_⟩⟩
      refine h4 dx [(f, y)] nd nda fun g v hg => ?_
      exact hg
/-! ### the law's def, over the table of all -/
theorem lookup_all {α : Type} {p : Str → α → Prop} : ∀ {l : List (Str × α)}, (∀ q ∈ l, p q.1 q.2) → ∀ x d, l.lookup x = some d → p x d
  | [], _, x, d, h => by cases h
  | (y, e) :: l, hp, x, d, h => by
    rw [List.lookup_cons] at h
    cases q : (x == y) with
    | true =>
      rw [q] at h
      cases h
      have e := eq_of_beq q
      subst e
      exact hp _ (List.mem_cons_self ..)
    | false =>
      rw [q] at h
      exact lookup_all (fun q hq => hp q (List.mem_cons_of_mem _ hq)) x d h
def calsB (T : Tab) (defs : List (Str × Def)) : Bool := T.cals.all fun p => match defs.lookup p.1 with
  | some d => decide (d.np = p.2)
  | none => false
theorem calsB_ok {T : Tab} {defs : List (Str × Def)} (h : calsB T defs = true) (x : Str) (np : Nat) (hx : (x, np) ∈ T.cals) : ∃ d, defs.lookup x = some d ∧ d.np = np := by
  have q := List.all_eq_true.mp h (x, np) hx
  dsimp only at q
  cases e : defs.lookup x with
  | none => rw [e] at q; cases q
  | some d =>
    rw [e] at q
    exact ⟨d, rfl, of_decide_eq_true q⟩
theorem law_ok {T : Tab} {defs : List (Str × Def)} {ex : EX} {n : Nat} {x : Str} {d : Def} {f : Addr} {fd : FuncData} {ps : List Str} (sys : ∃ o, base.get? sysModules = some o ∧ o.cls = .type "dict") (blt : ∀ x, x ∈ T.blts → mg x = none)
    (glb : ∀ x v, (x, v) ∈ T.globs → (∃ u v', mg x = some u ∧ RelV v' u ∧ ∀ H, Rp K w H v v') ∧ mutD (.d v) = false)
    (tab : calsB T defs = true) (txt : ∀ q ∈ defs, ∃ f fd ps, DefAt K mg T q.1 q.2 f fd ps)
    (exc : ∀ x c fn ib, (x, c, fn, ib) ∈ T.excs → ∃ C fI fd ps, ExRd K mg ex x c fn ib w C ∧ ExMk P w K mg base fn C 1 fI fd ps) (hd : defs.lookup x = some d) (D : DefAt K mg T x d f fd ps) : FnG P w K mg base (CX P w) (n + 3) f fd ps (spD K w ex (Phi defs (n + 1) x) d.np) := by
  have e : Phi defs (n + 1) x = @runD ⟨Phi defs n⟩ d := by
    show (match defs.lookup x with | some d => @runD ⟨Phi defs n⟩ d | none => fun _ => no) = _
    rw [hd]
  rw [e]
  letI : Fs := ⟨Phi defs n⟩
  refine def_ok (k := n + 2) D sys blt glb (fun y np hy => ?_) exc (Nat.le_add_left 2 n)
  obtain ⟨d', hd, rfl⟩ := calsB_ok tab y np hy
  obtain ⟨f', fd', ps', D', F'⟩ := all_ok sys blt glb (calsB_ok tab) (lookup_all txt) exc n y d' hd
  exact ⟨f', fd', ps', D'.np, F', D'.mg, D'.kp, D'.bd⟩
theorem sys_ok (q : sysB K = true) (X : K.In base) : ∃ o, base.get? sysModules = some o ∧ o.cls = .type "dict" := by
  obtain ⟨o, h1, h2⟩ := sysB_ok q
  exact ⟨o, X _ _ h1, h2⟩
end
end Ld
/-! text k01T -/
set_option Elab.async false
set_option linter.all false
set_option maxRecDepth 100000
set_option maxHeartbeats 0
namespace Lk01
open PySem PySem.Spec L2 Ld
open PyProof.Rows hiding St
/-! ### the text -/
def top (i : Nat) : Stmt := PySem.Challenge.pw_leadalike_k01_facts_required.main.body.getD i (.Pass ⟨0, 0, 0, 0⟩)
def cin (i j : Nat) : Stmt := match top i with
  | .ClassDef (body := b) .. => b.getD j (.Pass ⟨0, 0, 0, 0⟩)
  | s => s
def tab : Tab where
  cals := [("is_integer", 1), ("is_index", 3), ("is_parts", 2), ("is_fact", 2), ("facts_fault", 3), ("require_facts", 2), ("table_of", 1), ("are_among", 2), ("_law_pen", 1), ("_law_fresh", 1), ("_law_draw", 2), ("_law_one_of", 2), ("_law_whole", 3), ("_law_bent", 3), ("_law_odd", 1), ("_law_drawn_kinds", 1), ("_law_drawn_fact", 2), ("_law_drawn_facts", 3), ("_law_is_right", 2), ("_law_due", 2), ("_law_told", 2), ("_law_all_facts", 1), ("_law_many_right", 0), ("law", 1)]
  blts := ["ValueError", "all", "bool", "enumerate", "int", "isinstance", "len", "list", "range", "repr", "set", "sorted", "tuple"]
  globs := [("MOST_FACTS", (.int (5400))), ("MOST_THING", (.int (29)))]
  excs := [("InvalidFacts", 0, ["index"], [("ValueError", true)])]
def d_is_integer : Def := ⟨1, 1, (.cons (.ret (.and (.isi (.var 0) .int) (.not (.isi (.var 0) .bool)))) .nil)⟩
def dd_is_integer : He.DefD := ⟨("is_integer", none), "is_integer", "is_integer", defArgs (top 5), defBody (top 5), defScope (top 5), [], []⟩
theorem t_is_integer : txtB tab ["value"] ["value"] d_is_integer dd_is_integer = true := by decide +kernel
def d_is_index : Def := ⟨3, 3, (.cons (.ret (.and (.call "is_integer" (.cons (.var 0) .nil)) (.chn .le .le (.var 1) (.var 0) (.var 2)))) .nil)⟩
def dd_is_index : He.DefD := ⟨("is_index", none), "is_index", "is_index", defArgs (top 6), defBody (top 6), defScope (top 6), [], []⟩
theorem t_is_index : txtB tab ["value", "low", "high"] ["value", "low", "high"] d_is_index dd_is_index = true := by decide +kernel
def d_is_parts : Def := ⟨2, 2, (.cons (.ret (.and (.isi (.var 0) .tuple) (.cmp .eq (.bi .len (.cons (.var 0) .nil)) (.var 1)))) .nil)⟩
def dd_is_parts : He.DefD := ⟨("is_parts", none), "is_parts", "is_parts", defArgs (top 7), defBody (top 7), defScope (top 7), [], []⟩
theorem t_is_parts : txtB tab ["value", "many"] ["value", "many"] d_is_parts dd_is_parts = true := by decide +kernel
def d_is_fact : Def := ⟨2, 3, (.cons (.ife (.or (.not (.call "is_parts" (.cons (.var 1) (.cons (.cst (.int (2))) .nil)))) (.not (.call "is_index" (.cons (.sub (.var 1) (.cst (.int (0)))) (.cons (.cst (.int (0))) (.cons (.bin .sub (.bi .len (.cons (.var 0) .nil)) (.cst (.int (1)))) .nil)))))) (.cons (.ret (.cst (.bool false))) .nil) .nil) (.cons (.ret (.and (.call "is_parts" (.cons (.sub (.var 1) (.cst (.int (1)))) (.cons (.sub (.var 0) (.sub (.var 1) (.cst (.int (0))))) .nil))) (.bi .all (.cons (.lc (.call "is_index" (.cons (.var 2) (.cons (.cst (.int (0))) (.cons (.glob "MOST_THING" (.int (29))) .nil)))) (.nm 2) (.sub (.var 1) (.cst (.int (1)))) .omit) .nil)))) .nil))⟩
def dd_is_fact : He.DefD := ⟨("is_fact", none), "is_fact", "is_fact", defArgs (top 8), defBody (top 8), defScope (top 8), [], []⟩
theorem t_is_fact : txtB tab ["kinds", "value", "thing"] ["kinds", "value"] d_is_fact dd_is_fact = true := by decide +kernel
def d_facts_fault : Def := ⟨3, 5, (.cons (.ife (.or (.not (.isi (.var 1) .tuple)) (.cmp .gt (.bi .len (.cons (.var 1) .nil)) (.var 2))) (.cons (.ret (.tup (.cons (.cst .none) .nil))) .nil) .nil) (.cons (.loop (.tp (.cons (.nm 3) (.cons (.nm 4) .nil))) (.enm (.var 1)) (.cons (.ife (.or (.not (.call "is_fact" (.cons (.var 0) (.cons (.var 4) .nil)))) (.and (.cmp .gt (.var 3) (.cst (.int (0)))) (.not (.cmp .lt (.sub (.var 1) (.bin .sub (.var 3) (.cst (.int (1))))) (.var 4))))) (.cons (.ret (.tup (.cons (.var 3) .nil))) .nil) .nil) .nil)) (.cons (.ret (.cst .none)) .nil)))⟩
def dd_facts_fault : He.DefD := ⟨("facts_fault", none), "facts_fault", "facts_fault", defArgs (top 9), defBody (top 9), defScope (top 9), [], []⟩
theorem t_facts_fault : txtB tab ["kinds", "value", "most", "index", "fact"] ["kinds", "value", "most"] d_facts_fault dd_facts_fault = true := by decide +kernel
def d_require_facts : Def := ⟨2, 3, (.cons (.asg (.nm 2) (.call "facts_fault" (.cons (.var 0) (.cons (.var 1) (.cons (.glob "MOST_FACTS" (.int (5400))) .nil))))) (.cons (.ife (.cmp .isnot (.var 2) (.cst .none)) (.cons (.raise 0 ["index"] (.cons (.sub (.var 2) (.cst (.int (0)))) .nil)) .nil) .nil) (.cons (.ret (.var 1)) .nil)))⟩
def dd_require_facts : He.DefD := ⟨("require_facts", none), "require_facts", "require_facts", defArgs (top 10), defBody (top 10), defScope (top 10), [], []⟩
theorem t_require_facts : txtB tab ["kinds", "value", "fault"] ["kinds", "value"] d_require_facts dd_require_facts = true := by decide +kernel
def d_table_of : Def := ⟨1, 2, (.cons (.ret (.dc (.var 1) (.cst (.bool true)) (.nm 1) (.var 0) .omit)) .nil)⟩
def dd_table_of : He.DefD := ⟨("table_of", none), "table_of", "table_of", defArgs (top 11), defBody (top 11), defScope (top 11), [], []⟩
theorem t_table_of : txtB tab ["facts", "fact"] ["facts"] d_table_of dd_table_of = true := by decide +kernel
def d_are_among : Def := ⟨2, 4, (.cons (.asg (.nm 2) (.call "table_of" (.cons (.var 1) .nil))) (.cons (.ret (.bi .all (.cons (.lc (.cmp .isin (.var 3) (.var 2)) (.nm 3) (.var 0) .omit) .nil))) .nil))⟩
def dd_are_among : He.DefD := ⟨("are_among", none), "are_among", "are_among", defArgs (top 12), defBody (top 12), defScope (top 12), [], []⟩
theorem t_are_among : txtB tab ["facts", "others", "table", "fact"] ["facts", "others"] d_are_among dd_are_among = true := by decide +kernel
def d__law_pen : Def := ⟨1, 1, (.cons (.mkpen (.bi .list (.cons (.slc (.var 0) .omit (.cst (.int (63)))) .nil))) .nil)⟩
def dd__law_pen : He.DefD := ⟨("_law_pen", none), "_law_pen", "_law_pen", defArgs (top 14), defBody (top 14), defScope (top 14), [], []⟩
theorem t__law_pen : txtB tab ["script"] ["script"] d__law_pen dd__law_pen = true := by decide +kernel
def d__law_fresh : Def := ⟨1, 8, (.cons (.asg (.tp (.cons (.nm 1) (.cons (.nm 2) .nil))) (.tup (.cons (.pget 0 1) (.cons (.pget 0 0) .nil)))) (.cons (.pen1 0 (.bin .add (.var 1) (.cst (.int (1))))) (.cons (.asg (.nm 3) (.ife (.cmp .ne (.var 2) (.lst .nil)) (.sub (.var 2) (.bin .mod (.bi .int (.cons (.var 1) .nil)) (.bi .len (.cons (.var 2) .nil)))) (.cst (.int (0))))) (.cons (.ife (.and (.cmp .lt (.var 1) (.bi .len (.cons (.var 2) .nil))) (.cmp .ge (.var 3) (.bin .pow (.cst (.int (10))) (.cst (.int (18)))))) (.cons (.ret (.bin .sub (.var 3) (.bin .pow (.cst (.int (10))) (.cst (.int (18)))))) .nil) .nil) (.cons (.asg (.nm 4) (.cst (.int (2305843009213693951)))) (.cons (.asg (.nm 5) (.bin .mod (.bi .int (.cons (.bin .add (.bin .add (.bin .mul (.var 3) (.cst (.int (48271)))) (.bin .mul (.cst (.int (60013))) (.var 1))) (.cst (.int (31)))) .nil)) (.var 4))) (.cons (.asg (.nm 6) (.var 5)) (.cons (.loop (.nm 7) (.rng .omit (.cst (.int (6)))) (.cons (.asg (.nm 5) (.bin .mod (.bi .int (.cons (.bin .add (.bin .add (.bin .mul (.var 5) (.var 5)) (.bin .mul (.bin .mul (.cst (.int (70139))) (.bin .add (.var 7) (.cst (.int (5))))) (.bin .add (.var 1) (.cst (.int (1)))))) (.var 3)) .nil)) (.var 4))) (.cons (.asg (.nm 6) (.bin .add (.bin .mul (.var 6) (.var 4)) (.var 5))) .nil))) (.cons (.ret (.var 6)) .nil)))))))))⟩
def dd__law_fresh : He.DefD := ⟨("_law_fresh", none), "_law_fresh", "_law_fresh", defArgs (top 15), defBody (top 15), defScope (top 15), [], []⟩
theorem t__law_fresh : txtB tab ["pen", "seat", "given", "cell", "prime", "state", "found", "lap"] ["pen"] d__law_fresh dd__law_fresh = true := by decide +kernel
def d__law_draw : Def := ⟨2, 3, (.cons (.ife (.cmp .lt (.pget 0 2) (.var 1)) (.cons (.pen2 0 (.call "_law_fresh" (.cons (.var 0) .nil))) .nil) .nil) (.cons (.asg (.nm 2) (.bin .mod (.bi .int (.cons (.pget 0 2) .nil)) (.var 1))) (.cons (.pen2 0 (.bin .fdiv (.bi .int (.cons (.pget 0 2) .nil)) (.var 1))) (.cons (.ret (.var 2)) .nil))))⟩
def dd__law_draw : He.DefD := ⟨("_law_draw", none), "_law_draw", "_law_draw", defArgs (top 16), defBody (top 16), defScope (top 16), [], []⟩
theorem t__law_draw : txtB tab ["pen", "bound", "digit"] ["pen", "bound"] d__law_draw dd__law_draw = true := by decide +kernel
def d__law_one_of : Def := ⟨2, 2, (.cons (.ret (.sub (.var 1) (.call "_law_draw" (.cons (.var 0) (.cons (.bi .len (.cons (.var 1) .nil)) .nil))))) .nil)⟩
def dd__law_one_of : He.DefD := ⟨("_law_one_of", none), "_law_one_of", "_law_one_of", defArgs (top 17), defBody (top 17), defScope (top 17), [], []⟩
theorem t__law_one_of : txtB tab ["pen", "some"] ["pen", "some"] d__law_one_of dd__law_one_of = true := by decide +kernel
def d__law_whole : Def := ⟨3, 3, (.cons (.ret (.and (.isi (.var 0) .int) (.and (.not (.isi (.var 0) .bool)) (.chn .le .le (.var 1) (.var 0) (.var 2))))) .nil)⟩
def dd__law_whole : He.DefD := ⟨("_law_whole", none), "_law_whole", "_law_whole", defArgs (top 18), defBody (top 18), defScope (top 18), [], []⟩
theorem t__law_whole : txtB tab ["value", "low", "high"] ["value", "low", "high"] d__law_whole dd__law_whole = true := by decide +kernel
def d__law_bent : Def := ⟨3, 6, (.cons (.ife (.or (.not (.isi (.var 1) .tuple)) (.or (.cmp .eq (.var 1) (.tup .nil)) (.or (.cmp .eq (.var 2) (.cst (.int (0)))) (.cmp .eq (.call "_law_draw" (.cons (.var 0) (.cons (.cst (.int (6))) .nil))) (.cst (.int (0))))))) (.cons (.asg (.nm 3) (.call "_law_draw" (.cons (.var 0) (.cons (.cst (.int (8))) .nil)))) (.cons (.ife (.and (.isi (.var 1) .int) (.and (.not (.isi (.var 1) .bool)) (.cmp .lt (.var 3) (.cst (.int (6)))))) (.cons (.ret (.sub (.lst (.cons (.bin .add (.var 1) (.cst (.int (1)))) (.cons (.bin .sub (.var 1) (.cst (.int (1)))) (.cons (.cmp .eq (.var 1) (.cst (.int (1)))) (.cons (.cst (.int (0))) (.cons (.neg (.var 1)) (.cons (.bin .add (.var 1) (.cst (.int (1)))) .nil))))))) (.var 3))) .nil) .nil) (.cons (.ife (.and (.isi (.var 1) .tuple) (.cmp .lt (.var 3) (.cst (.int (6))))) (.cons (.ret (.sub (.lst (.cons (.slc (.var 1) (.cst (.int (1))) .omit) (.cons (.slc (.var 1) .omit (.neg (.cst (.int (1))))) (.cons (.bin .add (.var 1) (.slc (.var 1) .omit (.cst (.int (1))))) (.cons (.rev (.var 1)) (.cons (.bi .list (.cons (.var 1) .nil)) (.cons (.bin .add (.var 1) (.tup (.cons (.cst (.int (0))) .nil))) .nil))))))) (.var 3))) .nil) .nil) (.cons (.ret (.call "_law_odd" (.cons (.var 0) .nil))) .nil)))) .nil) (.cons (.asg (.nm 4) (.call "_law_draw" (.cons (.var 0) (.cons (.bi .len (.cons (.var 1) .nil)) .nil)))) (.cons (.asg (.nm 5) (.call "_law_bent" (.cons (.var 0) (.cons (.sub (.var 1) (.var 4)) (.cons (.bin .sub (.var 2) (.cst (.int (1)))) .nil))))) (.cons (.ret (.bin .add (.bin .add (.slc (.var 1) .omit (.var 4)) (.tup (.cons (.var 5) .nil))) (.slc (.var 1) (.bin .add (.var 4) (.cst (.int (1)))) .omit))) .nil))))⟩
def dd__law_bent : He.DefD := ⟨("_law_bent", none), "_law_bent", "_law_bent", defArgs (top 19), defBody (top 19), defScope (top 19), [], []⟩
theorem t__law_bent : txtB tab ["pen", "value", "depth", "option", "at", "part"] ["pen", "value", "depth"] d__law_bent dd__law_bent = true := by decide +kernel
def d__law_odd : Def := ⟨1, 2, (.cons (.asg (.nm 1) (.lst (.cons (.cst .none) (.cons (.cst (.bool true)) (.cons (.cst (.bool false)) (.cons (.neg (.cst (.int (1)))) (.cons (.cst (.int (0))) (.cons (.cst (.int (1))) (.cons (.cst (.int (2))) (.cons (.cst (.int (3))) (.cons (.cst (.int (5))) (.cons (.cst (.int (30))) (.cons (.cst (.str "")) (.cons (.cst (.str "0")) (.cons (.cst (.str "leads")) (.cons (.cst (.str "within")) (.cons (.tup .nil) (.cons (.lst .nil) (.cons .dnew (.cons (.tup (.cons (.cst (.int (0))) .nil)) (.cons (.tup (.cons (.cst (.int (0))) (.cons (.cst (.int (1))) .nil))) (.cons (.tup (.cons (.tup .nil) .nil)) (.cons (.lst (.cons (.cst (.int (0))) .nil)) .nil))))))))))))))))))))))) (.cons (.ret (.call "_law_one_of" (.cons (.var 0) (.cons (.bin .add (.var 1) (.lst (.cons (.bin .pow (.cst (.int (10))) (.cst (.int (41)))) (.cons (.tup (.cons (.cst (.int (0))) (.cons (.tup (.cons (.cst (.int (1))) .nil)) .nil))) (.cons (.tup (.cons (.cst (.int (0))) (.cons (.tup .nil) .nil))) (.cons (.tup (.cons (.tup (.cons (.cst (.int (0))) (.cons (.tup (.cons (.neg (.cst (.int (1)))) .nil)) .nil))) (.cons (.tup .nil) (.cons (.tup .nil) .nil)))) (.cons (.tup (.cons (.tup (.cons (.cst (.int (1))) .nil)) (.cons (.tup .nil) .nil))) (.cons (.tup (.cons (.cst (.int (1))) (.cons (.lst (.cons (.cst (.int (3))) .nil)) .nil))) (.cons (.neg (.cst (.int (2)))) .nil))))))))) .nil)))) .nil))⟩
def dd__law_odd : He.DefD := ⟨("_law_odd", none), "_law_odd", "_law_odd", defArgs (top 20), defBody (top 20), defScope (top 20), [], []⟩
theorem t__law_odd : txtB tab ["pen", "some"] ["pen"] d__law_odd dd__law_odd = true := by decide +kernel
def d__law_drawn_kinds : Def := ⟨1, 1, (.cons (.ret (.call "_law_one_of" (.cons (.var 0) (.cons (.lst (.cons (.tup (.cons (.cst (.int (1))) (.cons (.cst (.int (1))) .nil))) (.cons (.tup (.cons (.cst (.int (2))) .nil)) (.cons (.tup (.cons (.cst (.int (1))) (.cons (.cst (.int (2))) .nil))) (.cons (.tup (.cons (.cst (.int (2))) (.cons (.cst (.int (2))) .nil))) (.cons (.tup (.cons (.cst (.int (2))) (.cons (.cst (.int (1))) (.cons (.cst (.int (0))) .nil)))) (.cons (.tup (.cons (.cst (.int (1))) (.cons (.cst (.int (1))) (.cons (.cst (.int (1))) .nil)))) (.cons (.tup (.cons (.cst (.int (1))) (.cons (.cst (.int (0))) (.cons (.cst (.int (1))) (.cons (.cst (.int (2))) (.cons (.cst (.int (1))) .nil)))))) (.cons (.tup (.cons (.cst (.int (0))) (.cons (.cst (.int (0))) (.cons (.cst (.int (2))) (.cons (.cst (.int (1))) (.cons (.cst (.int (0))) (.cons (.cst (.int (1))) .nil))))))) .nil))))))))) .nil)))) .nil)⟩
def dd__law_drawn_kinds : He.DefD := ⟨("_law_drawn_kinds", none), "_law_drawn_kinds", "_law_drawn_kinds", defArgs (top 21), defBody (top 21), defScope (top 21), [], []⟩
theorem t__law_drawn_kinds : txtB tab ["pen"] ["pen"] d__law_drawn_kinds dd__law_drawn_kinds = true := by decide +kernel
def d__law_drawn_fact : Def := ⟨2, 4, (.cons (.asg (.nm 2) (.call "_law_draw" (.cons (.var 0) (.cons (.bi .len (.cons (.var 1) .nil)) .nil)))) (.cons (.ret (.tup (.cons (.var 2) (.cons (.bi .tuple (.cons (.lc (.call "_law_one_of" (.cons (.var 0) (.cons (.lst (.cons (.cst (.int (0))) (.cons (.cst (.int (1))) (.cons (.cst (.int (3))) (.cons (.cst (.int (5))) (.cons (.cst (.int (28))) .nil)))))) .nil))) (.nm 3) (.rng .omit (.sub (.var 1) (.var 2))) .omit) .nil)) .nil)))) .nil))⟩
def dd__law_drawn_fact : He.DefD := ⟨("_law_drawn_fact", none), "_law_drawn_fact", "_law_drawn_fact", defArgs (top 22), defBody (top 22), defScope (top 22), [], []⟩
theorem t__law_drawn_fact : txtB tab ["pen", "kinds", "kind", "lap"] ["pen", "kinds"] d__law_drawn_fact dd__law_drawn_fact = true := by decide +kernel
def d__law_drawn_facts : Def := ⟨3, 4, (.cons (.ret (.bi .tuple (.cons (.sset (.lc (.call "_law_drawn_fact" (.cons (.var 0) (.cons (.var 1) .nil))) (.nm 3) (.rng .omit (.call "_law_draw" (.cons (.var 0) (.cons (.bin .add (.var 2) (.cst (.int (1)))) .nil)))) .omit)) .nil))) .nil)⟩
def dd__law_drawn_facts : He.DefD := ⟨("_law_drawn_facts", none), "_law_drawn_facts", "_law_drawn_facts", defArgs (top 23), defBody (top 23), defScope (top 23), [], []⟩
theorem t__law_drawn_facts : txtB tab ["pen", "kinds", "many", "lap"] ["pen", "kinds", "many"] d__law_drawn_facts dd__law_drawn_facts = true := by decide +kernel
def d__law_is_right : Def := ⟨2, 3, (.cons (.ife (.or (.not (.isi (.var 1) .tuple)) (.or (.cmp .ne (.bi .len (.cons (.var 1) .nil)) (.cst (.int (2)))) (.not (.call "_law_whole" (.cons (.sub (.var 1) (.cst (.int (0)))) (.cons (.cst (.int (0))) (.cons (.bin .sub (.bi .len (.cons (.var 0) .nil)) (.cst (.int (1)))) .nil))))))) (.cons (.ret (.cst (.bool false))) .nil) .nil) (.cons (.ife (.or (.not (.isi (.sub (.var 1) (.cst (.int (1)))) .tuple)) (.cmp .ne (.bi .len (.cons (.sub (.var 1) (.cst (.int (1)))) .nil)) (.sub (.var 0) (.sub (.var 1) (.cst (.int (0))))))) (.cons (.ret (.cst (.bool false))) .nil) .nil) (.cons (.ret (.cmp .eq (.lc (.cst (.int (1))) (.nm 2) (.sub (.var 1) (.cst (.int (1)))) (.not (.call "_law_whole" (.cons (.var 2) (.cons (.cst (.int (0))) (.cons (.cst (.int (29))) .nil)))))) (.lst .nil))) .nil)))⟩
def dd__law_is_right : He.DefD := ⟨("_law_is_right", none), "_law_is_right", "_law_is_right", defArgs (top 24), defBody (top 24), defScope (top 24), [], []⟩
theorem t__law_is_right : txtB tab ["kinds", "value", "thing"] ["kinds", "value"] d__law_is_right dd__law_is_right = true := by decide +kernel
def d__law_due : Def := ⟨2, 4, (.cons (.ife (.or (.not (.isi (.var 1) .tuple)) (.cmp .gt (.bi .len (.cons (.var 1) .nil)) (.cst (.int (5400))))) (.cons (.ret (.tup (.cons (.cst (.str "index")) (.cons (.cst .none) .nil)))) .nil) .nil) (.cons (.loop (.tp (.cons (.nm 2) (.cons (.nm 3) .nil))) (.enm (.var 1)) (.cons (.ife (.or (.not (.call "_law_is_right" (.cons (.var 0) (.cons (.var 3) .nil)))) (.and (.cmp .gt (.var 2) (.cst (.int (0)))) (.not (.cmp .lt (.sub (.var 1) (.bin .sub (.var 2) (.cst (.int (1))))) (.var 3))))) (.cons (.ret (.tup (.cons (.cst (.str "index")) (.cons (.var 2) .nil)))) .nil) .nil) .nil)) (.cons (.ret (.tup (.cons (.cst (.str "told")) (.cons (.var 1) .nil)))) .nil)))⟩
def dd__law_due : He.DefD := ⟨("_law_due", none), "_law_due", "_law_due", defArgs (top 25), defBody (top 25), defScope (top 25), [], []⟩
theorem t__law_due : txtB tab ["kinds", "value", "at", "fact"] ["kinds", "value"] d__law_due dd__law_due = true := by decide +kernel
def d__law_told : Def := ⟨2, 3, (.cons (.try_ (.ret (.tup (.cons (.cst (.str "told")) (.cons (.call "require_facts" (.cons (.var 0) (.cons (.var 1) .nil))) .nil)))) 0 2 (.ret (.ife (.isB "ValueError" true) (.tup (.cons (.cst (.str "index")) (.cons (.fld "index") .nil))) (.tup (.cons (.cst (.str "class")) (.cons (.cst (.int (0))) .nil)))))) .nil)⟩
def dd__law_told : He.DefD := ⟨("_law_told", none), "_law_told", "_law_told", defArgs (top 26), defBody (top 26), defScope (top 26), [], []⟩
theorem t__law_told : txtB tab ["kinds", "value", "e"] ["kinds", "value"] d__law_told dd__law_told = true := by decide +kernel
def d__law_all_facts : Def := ⟨1, 4, (.cons (.own 1 (.lst .nil)) (.cons (.loop (.nm 2) (.rng .omit (.cst (.int (30)))) (.cons (.ext 1 (.lc (.tup (.cons (.var 0) (.cons (.tup (.cons (.var 2) (.cons (.var 3) .nil))) .nil))) (.nm 3) (.rng .omit (.cst (.int (30)))) .omit)) .nil)) (.cons (.frz 1) (.cons (.ret (.var 1)) .nil))))⟩
def dd__law_all_facts : He.DefD := ⟨("_law_all_facts", none), "_law_all_facts", "_law_all_facts", defArgs (top 27), defBody (top 27), defScope (top 27), [], []⟩
theorem t__law_all_facts : txtB tab ["kind", "found", "one", "other"] ["kind"] d__law_all_facts dd__law_all_facts = true := by decide +kernel
def d__law_many_right : Def := ⟨0, 6, (.cons (.own 0 (.lst .nil)) (.cons (.loop (.nm 1) (.rng .omit (.cst (.int (6)))) (.cons (.ext 0 (.call "_law_all_facts" (.cons (.var 1) .nil))) .nil)) (.cons (.asg (.tp (.cons (.nm 2) (.cons (.nm 3) .nil))) (.tup (.cons (.bi .tuple (.cons (.var 0) .nil)) (.cons (.bin .mul (.tup (.cons (.cst (.int (2))) .nil)) (.cst (.int (6)))) .nil)))) (.cons (.ife (.or (.cmp .ne (.call "require_facts" (.cons (.var 3) (.cons (.var 2) .nil))) (.var 2)) (.cmp .ne (.call "_law_told" (.cons (.var 3) (.cons (.bin .add (.var 2) (.tup (.cons (.tup (.cons (.cst (.int (0))) (.cons (.tup (.cons (.cst (.int (0))) (.cons (.cst (.int (0))) .nil))) .nil))) .nil))) .nil))) (.tup (.cons (.cst (.str "index")) (.cons (.cst .none) .nil))))) (.cons (.ret (.cst (.bool false))) .nil) .nil) (.cons (.loop (.nm 4) (.tup (.cons (.cst (.int (20))) (.cons (.cst (.int (700))) (.cons (.cst (.int (5399))) .nil)))) (.cons (.loop (.nm 5) (.tup (.cons (.tup (.cons (.cst (.int (0))) (.cons (.tup (.cons (.cst (.int (0))) (.cons (.cst (.int (30))) .nil))) .nil))) (.cons (.sub (.var 2) (.bin .sub (.var 4) (.cst (.int (1))))) (.cons (.cst .none) .nil)))) (.cons (.ife (.cmp .ne (.call "_law_told" (.cons (.var 3) (.cons (.bin .add (.bin .add (.slc (.var 2) .omit (.var 4)) (.tup (.cons (.var 5) .nil))) (.slc (.var 2) (.bin .add (.var 4) (.cst (.int (1)))) .omit)) .nil))) (.tup (.cons (.cst (.str "index")) (.cons (.var 4) .nil)))) (.cons (.ret (.cst (.bool false))) .nil) .nil) .nil)) (.cons (.ife (.call "are_among" (.cons (.var 2) (.cons (.bin .add (.slc (.var 2) .omit (.var 4)) (.slc (.var 2) (.bin .add (.var 4) (.cst (.int (1)))) .omit)) .nil))) (.cons (.ret (.cst (.bool false))) .nil) .nil) .nil))) (.cons (.ret (.and (.call "are_among" (.cons (.var 2) (.cons (.var 2) .nil))) (.and (.not (.call "are_among" (.cons (.var 2) (.cons (.slc (.var 2) (.cst (.int (1))) .omit) .nil)))) (.call "are_among" (.cons (.slc (.var 2) (.cst (.int (7))) (.cst (.int (9)))) (.cons (.var 2) .nil)))))) .nil))))))⟩
def dd__law_many_right : He.DefD := ⟨("_law_many_right", none), "_law_many_right", "_law_many_right", defArgs (top 28), defBody (top 28), defScope (top 28), [], []⟩
theorem t__law_many_right : txtB tab ["some", "kind", "facts", "kinds", "at", "odd"] [] d__law_many_right dd__law_many_right = true := by decide +kernel
def d_law : Def := ⟨1, 11, (.cons (.asg (.nm 1) (.call "_law_pen" (.cons (.var 0) .nil))) (.cons (.ife (.and (.cmp .eq (.call "_law_draw" (.cons (.var 1) (.cons (.cst (.int (6))) .nil))) (.cst (.int (5)))) (.not (.call "_law_many_right" .nil))) (.cons (.ret (.cst (.bool false))) .nil) .nil) (.cons (.loop (.nm 2) (.rng .omit (.cst (.int (6)))) (.cons (.asg (.nm 3) (.call "_law_drawn_kinds" (.cons (.var 1) .nil))) (.cons (.asg (.tp (.cons (.nm 4) (.cons (.nm 5) .nil))) (.tup (.cons (.call "_law_drawn_facts" (.cons (.var 1) (.cons (.var 3) (.cons (.cst (.int (6))) .nil)))) (.cons (.call "_law_drawn_facts" (.cons (.var 1) (.cons (.var 3) (.cons (.cst (.int (6))) .nil)))) .nil)))) (.cons (.asg (.nm 6) (.lst (.cons (.var 4) (.cons (.rev (.var 4)) (.cons (.bin .add (.var 4) (.slc (.var 4) (.neg (.cst (.int (1)))) .omit)) (.cons (.bi .list (.cons (.var 4) .nil)) (.cons (.bin .add (.var 4) (.var 5)) (.cons (.call "_law_odd" (.cons (.var 1) .nil)) .nil)))))))) (.cons (.asg (.nm 6) (.bin .add (.var 6) (.lc (.call "_law_bent" (.cons (.var 1) (.cons (.var 4) (.cons (.var 7) .nil)))) (.nm 7) (.tup (.cons (.cst (.int (1))) (.cons (.cst (.int (2))) (.cons (.cst (.int (3))) (.cons (.cst (.int (3))) (.cons (.cst (.int (3))) .nil)))))) .omit))) (.cons (.loop (.nm 8) (.bin .add (.var 6) (.lst (.cons (.tup (.cons (.tup (.cons (.cst (.int (0))) (.cons (.bin .mul (.tup (.cons (.cst (.int (30))) .nil)) (.sub (.var 3) (.cst (.int (0))))) .nil))) .nil)) (.cons (.tup (.cons (.tup (.cons (.cst (.int (0))) (.cons (.bin .mul (.tup (.cons (.cst (.int (29))) .nil)) (.sub (.var 3) (.cst (.int (0))))) .nil))) .nil)) (.cons (.tup (.cons (.tup (.cons (.bi .len (.cons (.var 3) .nil)) (.cons (.tup .nil) .nil))) .nil)) .nil))))) (.cons (.asg (.nm 9) (.bi .repr (.cons (.var 8) .nil))) (.cons (.ife (.or (.cmp .ne (.bi .repr (.cons (.call "_law_told" (.cons (.var 3) (.cons (.var 8) .nil))) .nil)) (.bi .repr (.cons (.call "_law_due" (.cons (.var 3) (.cons (.var 8) .nil))) .nil))) (.cmp .ne (.bi .repr (.cons (.var 8) .nil)) (.var 9))) (.cons (.ret (.cst (.bool false))) .nil) .nil) (.cons (.loop (.nm 10) (.ife (.isi (.var 8) .tuple) (.bin .add (.slc (.bi .list (.cons (.var 8) .nil)) .omit (.cst (.int (4)))) (.lst (.cons (.var 8) .nil))) (.lst (.cons (.var 8) .nil))) (.cons (.ife (.cmp .ne (.bi .repr (.cons (.call "is_fact" (.cons (.var 3) (.cons (.var 10) .nil))) .nil)) (.bi .repr (.cons (.call "_law_is_right" (.cons (.var 3) (.cons (.var 10) .nil))) .nil))) (.cons (.ret (.cst (.bool false))) .nil) .nil) .nil)) .nil)))) (.cons (.ife (.cmp .ne (.bi .repr (.cons (.call "are_among" (.cons (.var 4) (.cons (.var 5) .nil))) .nil)) (.bi .repr (.cons (.cmp .eq (.lc (.cst (.int (1))) (.nm 10) (.var 4) (.cmp .notin (.var 10) (.var 5))) (.lst .nil)) .nil))) (.cons (.ret (.cst (.bool false))) .nil) .nil) .nil))))))) (.cons (.ret (.cst (.bool true))) .nil))))⟩
def dd_law : He.DefD := ⟨("law", none), "law", "law", defArgs (top 29), defBody (top 29), defScope (top 29), [], []⟩
theorem t_law : txtB tab ["script", "pen", "lap", "kinds", "facts", "others", "some", "depth", "value", "kept", "fact"] ["script"] d_law dd_law = true := by decide +kernel
def defs : List (Str × Def) := [("is_integer", d_is_integer), ("is_index", d_is_index), ("is_parts", d_is_parts), ("is_fact", d_is_fact), ("facts_fault", d_facts_fault), ("require_facts", d_require_facts), ("table_of", d_table_of), ("are_among", d_are_among), ("_law_pen", d__law_pen), ("_law_fresh", d__law_fresh), ("_law_draw", d__law_draw), ("_law_one_of", d__law_one_of), ("_law_whole", d__law_whole), ("_law_bent", d__law_bent), ("_law_odd", d__law_odd), ("_law_drawn_kinds", d__law_drawn_kinds), ("_law_drawn_fact", d__law_drawn_fact), ("_law_drawn_facts", d__law_drawn_facts), ("_law_is_right", d__law_is_right), ("_law_due", d__law_due), ("_law_told", d__law_told), ("_law_all_facts", d__law_all_facts), ("_law_many_right", d__law_many_right), ("law", d_law)]
end Lk01
/-! text k01H -/
set_option Elab.async false
set_option linter.all false
set_option maxRecDepth 100000
set_option maxHeartbeats 0
namespace Lk01
open PySem PySem.Spec L2 Ld
open PyProof.Rows hiding St
/-! ### the head -/
def di_InvalidFacts : He.DefD := ⟨("InvalidFacts", some "__init__"), "__init__", "InvalidFacts.__init__", defArgs (cin 1 0), defBody (cin 1 0), defScope (cin 1 0), [], []⟩
def fn : List He.DefD := [dd_is_integer, dd_is_index, dd_is_parts, dd_is_fact, dd_facts_fault, dd_require_facts, dd_table_of, dd_are_among, dd__law_pen, dd__law_fresh, dd__law_draw, dd__law_one_of, dd__law_whole, dd__law_bent, dd__law_odd, dd__law_drawn_kinds, dd__law_drawn_fact, dd__law_drawn_facts, dd__law_is_right, dd__law_due, dd__law_told, dd__law_all_facts, dd__law_many_right, dd_law, di_InvalidFacts]
def fa : List He.Fa := [.glo "is_integer", .glo "is_index", .glo "is_parts", .glo "is_fact", .glo "facts_fault", .glo "require_facts", .glo "table_of", .glo "are_among", .glo "_law_pen", .glo "_law_fresh", .glo "_law_draw", .glo "_law_one_of", .glo "_law_whole", .glo "_law_bent", .glo "_law_odd", .glo "_law_drawn_kinds", .glo "_law_drawn_fact", .glo "_law_drawn_facts", .glo "_law_is_right", .glo "_law_due", .glo "_law_told", .glo "_law_all_facts", .glo "_law_many_right", .glo "law", .free "ValueError", .free "all", .free "bool", .free "enumerate", .free "int", .free "isinstance", .free "len", .free "list", .free "range", .free "repr", .free "set", .free "sorted", .free "tuple"]
def cl : List Str := ["InvalidFacts"]
def xb (K : PySem.W.Frag) : Bool := (tab.globs.all fun p => globB K p) && tab.excs.all fun p => exRdB K cl p.1 p.2.1 p.2.2.1 p.2.2.2 && oexB K (He.ga K p.1) (He.ma K (He.ga K p.1) "__init__")
abbrev R : PySem.W.OpenRow := PySem.W.OpenLaw.row PySem.Challenge.rw_leadalike_k01_facts_required
def loose : List Str := ["__name__", "InvalidFacts", "MOST_THING", "MOST_FACTS", "is_integer", "is_index", "is_parts", "is_fact", "facts_fault", "require_facts", "table_of", "are_among", "_law_pen", "_law_fresh", "_law_draw", "_law_one_of", "_law_whole", "_law_bent", "_law_odd", "_law_drawn_kinds", "_law_drawn_fact", "_law_drawn_facts", "_law_is_right", "_law_due", "_law_told", "_law_all_facts", "_law_many_right"]
abbrev hk : PySem.W.Hook := hookS 5 fa fn xb
def ob (s : PySem.W.SharedT) : Bool × He.AlD := obsS 5 fa fn xb (HandSHeadRun.getT s)
theorem ob_eq (s : PySem.W.SharedT) : ob s = hk.obs s.abs := obsS_eq (HandSHeadRun.getT_eq s)
theorem run (w : World) : HandSHeadRun.RunEq R (PySem.W.view R.prog [29]) hk ob 2000 loose w := by
  intro os
  kernel_rfl
section
variable {K : PySem.W.Frag} {mg : Str → Option Value} {h : Heap} {P : Program} {w : World} {base : Heap}
theorem at_is_integer (X : K.In h) (G : h.Ns mainGlobals mg) (c : He.SaysD fa fn K) : ∃ fd, DefAt K mg tab "is_integer" d_is_integer (He.ga K "is_integer") fd ["value"] := by
  obtain ⟨fd, F⟩ := c.def_ 0 (d := dd_is_integer) rfl
  exact ⟨fd, defAt_of F (He.glo_ok X G (c.fact 0 (f := .glo "is_integer") rfl)) t_is_integer (FunD.bindsN (show FunD K "is_integer" "is_integer" (defArgs (top 5)) (defBody (top 5)) (defScope (top 5)) [] [] _ fd from F) fun _ _ _ _ _ _ us hl => match us, hl with | [_], _ => rfl)⟩
theorem at_is_index (X : K.In h) (G : h.Ns mainGlobals mg) (c : He.SaysD fa fn K) : ∃ fd, DefAt K mg tab "is_index" d_is_index (He.ga K "is_index") fd ["value", "low", "high"] := by
  obtain ⟨fd, F⟩ := c.def_ 1 (d := dd_is_index) rfl
  exact ⟨fd, defAt_of F (He.glo_ok X G (c.fact 1 (f := .glo "is_index") rfl)) t_is_index (FunD.bindsN (show FunD K "is_index" "is_index" (defArgs (top 6)) (defBody (top 6)) (defScope (top 6)) [] [] _ fd from F) fun _ _ _ _ _ _ us hl => match us, hl with | [_, _, _], _ => rfl)⟩
theorem at_is_parts (X : K.In h) (G : h.Ns mainGlobals mg) (c : He.SaysD fa fn K) : ∃ fd, DefAt K mg tab "is_parts" d_is_parts (He.ga K "is_parts") fd ["value", "many"] := by
  obtain ⟨fd, F⟩ := c.def_ 2 (d := dd_is_parts) rfl
  exact ⟨fd, defAt_of F (He.glo_ok X G (c.fact 2 (f := .glo "is_parts") rfl)) t_is_parts (FunD.bindsN (show FunD K "is_parts" "is_parts" (defArgs (top 7)) (defBody (top 7)) (defScope (top 7)) [] [] _ fd from F) fun _ _ _ _ _ _ us hl => match us, hl with | [_, _], _ => rfl)⟩
theorem at_is_fact (X : K.In h) (G : h.Ns mainGlobals mg) (c : He.SaysD fa fn K) : ∃ fd, DefAt K mg tab "is_fact" d_is_fact (He.ga K "is_fact") fd ["kinds", "value"] := by
  obtain ⟨fd, F⟩ := c.def_ 3 (d := dd_is_fact) rfl
  exact ⟨fd, defAt_of F (He.glo_ok X G (c.fact 3 (f := .glo "is_fact") rfl)) t_is_fact (FunD.bindsN (show FunD K "is_fact" "is_fact" (defArgs (top 8)) (defBody (top 8)) (defScope (top 8)) [] [] _ fd from F) fun _ _ _ _ _ _ us hl => match us, hl with | [_, _], _ => rfl)⟩
theorem at_facts_fault (X : K.In h) (G : h.Ns mainGlobals mg) (c : He.SaysD fa fn K) : ∃ fd, DefAt K mg tab "facts_fault" d_facts_fault (He.ga K "facts_fault") fd ["kinds", "value", "most"] := by
  obtain ⟨fd, F⟩ := c.def_ 4 (d := dd_facts_fault) rfl
  exact ⟨fd, defAt_of F (He.glo_ok X G (c.fact 4 (f := .glo "facts_fault") rfl)) t_facts_fault (FunD.bindsN (show FunD K "facts_fault" "facts_fault" (defArgs (top 9)) (defBody (top 9)) (defScope (top 9)) [] [] _ fd from F) fun _ _ _ _ _ _ us hl => match us, hl with | [_, _, _], _ => rfl)⟩
theorem at_require_facts (X : K.In h) (G : h.Ns mainGlobals mg) (c : He.SaysD fa fn K) : ∃ fd, DefAt K mg tab "require_facts" d_require_facts (He.ga K "require_facts") fd ["kinds", "value"] := by
  obtain ⟨fd, F⟩ := c.def_ 5 (d := dd_require_facts) rfl
  exact ⟨fd, defAt_of F (He.glo_ok X G (c.fact 5 (f := .glo "require_facts") rfl)) t_require_facts (FunD.bindsN (show FunD K "require_facts" "require_facts" (defArgs (top 10)) (defBody (top 10)) (defScope (top 10)) [] [] _ fd from F) fun _ _ _ _ _ _ us hl => match us, hl with | [_, _], _ => rfl)⟩
theorem at_table_of (X : K.In h) (G : h.Ns mainGlobals mg) (c : He.SaysD fa fn K) : ∃ fd, DefAt K mg tab "table_of" d_table_of (He.ga K "table_of") fd ["facts"] := by
  obtain ⟨fd, F⟩ := c.def_ 6 (d := dd_table_of) rfl
  exact ⟨fd, defAt_of F (He.glo_ok X G (c.fact 6 (f := .glo "table_of") rfl)) t_table_of (FunD.bindsN (show FunD K "table_of" "table_of" (defArgs (top 11)) (defBody (top 11)) (defScope (top 11)) [] [] _ fd from F) fun _ _ _ _ _ _ us hl => match us, hl with | [_], _ => rfl)⟩
theorem at_are_among (X : K.In h) (G : h.Ns mainGlobals mg) (c : He.SaysD fa fn K) : ∃ fd, DefAt K mg tab "are_among" d_are_among (He.ga K "are_among") fd ["facts", "others"] := by
  obtain ⟨fd, F⟩ := c.def_ 7 (d := dd_are_among) rfl
  exact ⟨fd, defAt_of F (He.glo_ok X G (c.fact 7 (f := .glo "are_among") rfl)) t_are_among (FunD.bindsN (show FunD K "are_among" "are_among" (defArgs (top 12)) (defBody (top 12)) (defScope (top 12)) [] [] _ fd from F) fun _ _ _ _ _ _ us hl => match us, hl with | [_, _], _ => rfl)⟩
theorem at__law_pen (X : K.In h) (G : h.Ns mainGlobals mg) (c : He.SaysD fa fn K) : ∃ fd, DefAt K mg tab "_law_pen" d__law_pen (He.ga K "_law_pen") fd ["script"] := by
  obtain ⟨fd, F⟩ := c.def_ 8 (d := dd__law_pen) rfl
  exact ⟨fd, defAt_of F (He.glo_ok X G (c.fact 8 (f := .glo "_law_pen") rfl)) t__law_pen (FunD.bindsN (show FunD K "_law_pen" "_law_pen" (defArgs (top 14)) (defBody (top 14)) (defScope (top 14)) [] [] _ fd from F) fun _ _ _ _ _ _ us hl => match us, hl with | [_], _ => rfl)⟩
theorem at__law_fresh (X : K.In h) (G : h.Ns mainGlobals mg) (c : He.SaysD fa fn K) : ∃ fd, DefAt K mg tab "_law_fresh" d__law_fresh (He.ga K "_law_fresh") fd ["pen"] := by
  obtain ⟨fd, F⟩ := c.def_ 9 (d := dd__law_fresh) rfl
  exact ⟨fd, defAt_of F (He.glo_ok X G (c.fact 9 (f := .glo "_law_fresh") rfl)) t__law_fresh (FunD.bindsN (show FunD K "_law_fresh" "_law_fresh" (defArgs (top 15)) (defBody (top 15)) (defScope (top 15)) [] [] _ fd from F) fun _ _ _ _ _ _ us hl => match us, hl with | [_], _ => rfl)⟩
theorem at__law_draw (X : K.In h) (G : h.Ns mainGlobals mg) (c : He.SaysD fa fn K) : ∃ fd, DefAt K mg tab "_law_draw" d__law_draw (He.ga K "_law_draw") fd ["pen", "bound"] := by
  obtain ⟨fd, F⟩ := c.def_ 10 (d := dd__law_draw) rfl
  exact ⟨fd, defAt_of F (He.glo_ok X G (c.fact 10 (f := .glo "_law_draw") rfl)) t__law_draw (FunD.bindsN (show FunD K "_law_draw" "_law_draw" (defArgs (top 16)) (defBody (top 16)) (defScope (top 16)) [] [] _ fd from F) fun _ _ _ _ _ _ us hl => match us, hl with | [_, _], _ => rfl)⟩
theorem at__law_one_of (X : K.In h) (G : h.Ns mainGlobals mg) (c : He.SaysD fa fn K) : ∃ fd, DefAt K mg tab "_law_one_of" d__law_one_of (He.ga K "_law_one_of") fd ["pen", "some"] := by
  obtain ⟨fd, F⟩ := c.def_ 11 (d := dd__law_one_of) rfl
  exact ⟨fd, defAt_of F (He.glo_ok X G (c.fact 11 (f := .glo "_law_one_of") rfl)) t__law_one_of (FunD.bindsN (show FunD K "_law_one_of" "_law_one_of" (defArgs (top 17)) (defBody (top 17)) (defScope (top 17)) [] [] _ fd from F) fun _ _ _ _ _ _ us hl => match us, hl with | [_, _], _ => rfl)⟩
theorem at__law_whole (X : K.In h) (G : h.Ns mainGlobals mg) (c : He.SaysD fa fn K) : ∃ fd, DefAt K mg tab "_law_whole" d__law_whole (He.ga K "_law_whole") fd ["value", "low", "high"] := by
  obtain ⟨fd, F⟩ := c.def_ 12 (d := dd__law_whole) rfl
  exact ⟨fd, defAt_of F (He.glo_ok X G (c.fact 12 (f := .glo "_law_whole") rfl)) t__law_whole (FunD.bindsN (show FunD K "_law_whole" "_law_whole" (defArgs (top 18)) (defBody (top 18)) (defScope (top 18)) [] [] _ fd from F) fun _ _ _ _ _ _ us hl => match us, hl with | [_, _, _], _ => rfl)⟩
theorem at__law_bent (X : K.In h) (G : h.Ns mainGlobals mg) (c : He.SaysD fa fn K) : ∃ fd, DefAt K mg tab "_law_bent" d__law_bent (He.ga K "_law_bent") fd ["pen", "value", "depth"] := by
  obtain ⟨fd, F⟩ := c.def_ 13 (d := dd__law_bent) rfl
  exact ⟨fd, defAt_of F (He.glo_ok X G (c.fact 13 (f := .glo "_law_bent") rfl)) t__law_bent (FunD.bindsN (show FunD K "_law_bent" "_law_bent" (defArgs (top 19)) (defBody (top 19)) (defScope (top 19)) [] [] _ fd from F) fun _ _ _ _ _ _ us hl => match us, hl with | [_, _, _], _ => rfl)⟩
theorem at__law_odd (X : K.In h) (G : h.Ns mainGlobals mg) (c : He.SaysD fa fn K) : ∃ fd, DefAt K mg tab "_law_odd" d__law_odd (He.ga K "_law_odd") fd ["pen"] := by
  obtain ⟨fd, F⟩ := c.def_ 14 (d := dd__law_odd) rfl
  exact ⟨fd, defAt_of F (He.glo_ok X G (c.fact 14 (f := .glo "_law_odd") rfl)) t__law_odd (FunD.bindsN (show FunD K "_law_odd" "_law_odd" (defArgs (top 20)) (defBody (top 20)) (defScope (top 20)) [] [] _ fd from F) fun _ _ _ _ _ _ us hl => match us, hl with | [_], _ => rfl)⟩
theorem at__law_drawn_kinds (X : K.In h) (G : h.Ns mainGlobals mg) (c : He.SaysD fa fn K) : ∃ fd, DefAt K mg tab "_law_drawn_kinds" d__law_drawn_kinds (He.ga K "_law_drawn_kinds") fd ["pen"] := by
  obtain ⟨fd, F⟩ := c.def_ 15 (d := dd__law_drawn_kinds) rfl
  exact ⟨fd, defAt_of F (He.glo_ok X G (c.fact 15 (f := .glo "_law_drawn_kinds") rfl)) t__law_drawn_kinds (FunD.bindsN (show FunD K "_law_drawn_kinds" "_law_drawn_kinds" (defArgs (top 21)) (defBody (top 21)) (defScope (top 21)) [] [] _ fd from F) fun _ _ _ _ _ _ us hl => match us, hl with | [_], _ => rfl)⟩
theorem at__law_drawn_fact (X : K.In h) (G : h.Ns mainGlobals mg) (c : He.SaysD fa fn K) : ∃ fd, DefAt K mg tab "_law_drawn_fact" d__law_drawn_fact (He.ga K "_law_drawn_fact") fd ["pen", "kinds"] := by
  obtain ⟨fd, F⟩ := c.def_ 16 (d := dd__law_drawn_fact) rfl
  exact ⟨fd, defAt_of F (He.glo_ok X G (c.fact 16 (f := .glo "_law_drawn_fact") rfl)) t__law_drawn_fact (FunD.bindsN (show FunD K "_law_drawn_fact" "_law_drawn_fact" (defArgs (top 22)) (defBody (top 22)) (defScope (top 22)) [] [] _ fd from F) fun _ _ _ _ _ _ us hl => match us, hl with | [_, _], _ => rfl)⟩
theorem at__law_drawn_facts (X : K.In h) (G : h.Ns mainGlobals mg) (c : He.SaysD fa fn K) : ∃ fd, DefAt K mg tab "_law_drawn_facts" d__law_drawn_facts (He.ga K "_law_drawn_facts") fd ["pen", "kinds", "many"] := by
  obtain ⟨fd, F⟩ := c.def_ 17 (d := dd__law_drawn_facts) rfl
  exact ⟨fd, defAt_of F (He.glo_ok X G (c.fact 17 (f := .glo "_law_drawn_facts") rfl)) t__law_drawn_facts (FunD.bindsN (show FunD K "_law_drawn_facts" "_law_drawn_facts" (defArgs (top 23)) (defBody (top 23)) (defScope (top 23)) [] [] _ fd from F) fun _ _ _ _ _ _ us hl => match us, hl with | [_, _, _], _ => rfl)⟩
theorem at__law_is_right (X : K.In h) (G : h.Ns mainGlobals mg) (c : He.SaysD fa fn K) : ∃ fd, DefAt K mg tab "_law_is_right" d__law_is_right (He.ga K "_law_is_right") fd ["kinds", "value"] := by
  obtain ⟨fd, F⟩ := c.def_ 18 (d := dd__law_is_right) rfl
  exact ⟨fd, defAt_of F (He.glo_ok X G (c.fact 18 (f := .glo "_law_is_right") rfl)) t__law_is_right (FunD.bindsN (show FunD K "_law_is_right" "_law_is_right" (defArgs (top 24)) (defBody (top 24)) (defScope (top 24)) [] [] _ fd from F) fun _ _ _ _ _ _ us hl => match us, hl with | [_, _], _ => rfl)⟩
theorem at__law_due (X : K.In h) (G : h.Ns mainGlobals mg) (c : He.SaysD fa fn K) : ∃ fd, DefAt K mg tab "_law_due" d__law_due (He.ga K "_law_due") fd ["kinds", "value"] := by
  obtain ⟨fd, F⟩ := c.def_ 19 (d := dd__law_due) rfl
  exact ⟨fd, defAt_of F (He.glo_ok X G (c.fact 19 (f := .glo "_law_due") rfl)) t__law_due (FunD.bindsN (show FunD K "_law_due" "_law_due" (defArgs (top 25)) (defBody (top 25)) (defScope (top 25)) [] [] _ fd from F) fun _ _ _ _ _ _ us hl => match us, hl with | [_, _], _ => rfl)⟩
theorem at__law_told (X : K.In h) (G : h.Ns mainGlobals mg) (c : He.SaysD fa fn K) : ∃ fd, DefAt K mg tab "_law_told" d__law_told (He.ga K "_law_told") fd ["kinds", "value"] := by
  obtain ⟨fd, F⟩ := c.def_ 20 (d := dd__law_told) rfl
  exact ⟨fd, defAt_of F (He.glo_ok X G (c.fact 20 (f := .glo "_law_told") rfl)) t__law_told (FunD.bindsN (show FunD K "_law_told" "_law_told" (defArgs (top 26)) (defBody (top 26)) (defScope (top 26)) [] [] _ fd from F) fun _ _ _ _ _ _ us hl => match us, hl with | [_, _], _ => rfl)⟩
theorem at__law_all_facts (X : K.In h) (G : h.Ns mainGlobals mg) (c : He.SaysD fa fn K) : ∃ fd, DefAt K mg tab "_law_all_facts" d__law_all_facts (He.ga K "_law_all_facts") fd ["kind"] := by
  obtain ⟨fd, F⟩ := c.def_ 21 (d := dd__law_all_facts) rfl
  exact ⟨fd, defAt_of F (He.glo_ok X G (c.fact 21 (f := .glo "_law_all_facts") rfl)) t__law_all_facts (FunD.bindsN (show FunD K "_law_all_facts" "_law_all_facts" (defArgs (top 27)) (defBody (top 27)) (defScope (top 27)) [] [] _ fd from F) fun _ _ _ _ _ _ us hl => match us, hl with | [_], _ => rfl)⟩
theorem at__law_many_right (X : K.In h) (G : h.Ns mainGlobals mg) (c : He.SaysD fa fn K) : ∃ fd, DefAt K mg tab "_law_many_right" d__law_many_right (He.ga K "_law_many_right") fd [] := by
  obtain ⟨fd, F⟩ := c.def_ 22 (d := dd__law_many_right) rfl
  exact ⟨fd, defAt_of F (He.glo_ok X G (c.fact 22 (f := .glo "_law_many_right") rfl)) t__law_many_right (FunD.bindsN (show FunD K "_law_many_right" "_law_many_right" (defArgs (top 28)) (defBody (top 28)) (defScope (top 28)) [] [] _ fd from F) fun _ _ _ _ _ _ us hl => match us, hl with | [], _ => rfl)⟩
theorem at_law (X : K.In h) (G : h.Ns mainGlobals mg) (c : He.SaysD fa fn K) : ∃ fd, DefAt K mg tab "law" d_law (He.ga K "law") fd ["script"] := by
  obtain ⟨fd, F⟩ := c.def_ 23 (d := dd_law) rfl
  exact ⟨fd, defAt_of F (He.glo_ok X G (c.fact 23 (f := .glo "law") rfl)) t_law (FunD.bindsN (show FunD K "law" "law" (defArgs (top 29)) (defBody (top 29)) (defScope (top 29)) [] [] _ fd from F) fun _ _ _ _ _ _ us hl => match us, hl with | [_], _ => rfl)⟩
theorem txt (X : K.In h) (G : h.Ns mainGlobals mg) (c : He.SaysD fa fn K) : ∀ q ∈ defs, ∃ f fd ps, DefAt K mg tab q.1 q.2 f fd ps := by
  have e : ∀ {x : Str} {d : Def} {f : Addr} {ps : List Str}, (∃ fd, DefAt K mg tab x d f fd ps) → ∃ f fd ps, DefAt K mg tab x d f fd ps := fun ⟨fd, D⟩ => ⟨_, fd, _, D⟩
  exact List.forall_mem_cons.mpr ⟨e (at_is_integer X G c), List.forall_mem_cons.mpr ⟨e (at_is_index X G c), List.forall_mem_cons.mpr ⟨e (at_is_parts X G c), List.forall_mem_cons.mpr ⟨e (at_is_fact X G c), List.forall_mem_cons.mpr ⟨e (at_facts_fault X G c), List.forall_mem_cons.mpr ⟨e (at_require_facts X G c), List.forall_mem_cons.mpr ⟨e (at_table_of X G c), List.forall_mem_cons.mpr ⟨e (at_are_among X G c), List.forall_mem_cons.mpr ⟨e (at__law_pen X G c), List.forall_mem_cons.mpr ⟨e (at__law_fresh X G c), List.forall_mem_cons.mpr ⟨e (at__law_draw X G c), List.forall_mem_cons.mpr ⟨e (at__law_one_of X G c), List.forall_mem_cons.mpr ⟨e (at__law_whole X G c), List.forall_mem_cons.mpr ⟨e (at__law_bent X G c), List.forall_mem_cons.mpr ⟨e (at__law_odd X G c), List.forall_mem_cons.mpr ⟨e (at__law_drawn_kinds X G c), List.forall_mem_cons.mpr ⟨e (at__law_drawn_fact X G c), List.forall_mem_cons.mpr ⟨e (at__law_drawn_facts X G c), List.forall_mem_cons.mpr ⟨e (at__law_is_right X G c), List.forall_mem_cons.mpr ⟨e (at__law_due X G c), List.forall_mem_cons.mpr ⟨e (at__law_told X G c), List.forall_mem_cons.mpr ⟨e (at__law_all_facts X G c), List.forall_mem_cons.mpr ⟨e (at__law_many_right X G c), List.forall_mem_cons.mpr ⟨e (at_law X G c), fun _ h => absurd h (List.not_mem_nil)⟩⟩⟩⟩⟩⟩⟩⟩⟩⟩⟩⟩⟩⟩⟩⟩⟩⟩⟩⟩⟩⟩⟩⟩
theorem blt (X : K.In h) (G : h.Ns mainGlobals mg) (c : He.SaysD fa fn K) : ∀ x ∈ tab.blts, mg x = none :=
  List.forall_mem_cons.mpr ⟨He.free_ok X G (c.fact 24 (f := .free "ValueError") rfl), List.forall_mem_cons.mpr ⟨He.free_ok X G (c.fact 25 (f := .free "all") rfl), List.forall_mem_cons.mpr ⟨He.free_ok X G (c.fact 26 (f := .free "bool") rfl), List.forall_mem_cons.mpr ⟨He.free_ok X G (c.fact 27 (f := .free "enumerate") rfl), List.forall_mem_cons.mpr ⟨He.free_ok X G (c.fact 28 (f := .free "int") rfl), List.forall_mem_cons.mpr ⟨He.free_ok X G (c.fact 29 (f := .free "isinstance") rfl), List.forall_mem_cons.mpr ⟨He.free_ok X G (c.fact 30 (f := .free "len") rfl), List.forall_mem_cons.mpr ⟨He.free_ok X G (c.fact 31 (f := .free "list") rfl), List.forall_mem_cons.mpr ⟨He.free_ok X G (c.fact 32 (f := .free "range") rfl), List.forall_mem_cons.mpr ⟨He.free_ok X G (c.fact 33 (f := .free "repr") rfl), List.forall_mem_cons.mpr ⟨He.free_ok X G (c.fact 34 (f := .free "set") rfl), List.forall_mem_cons.mpr ⟨He.free_ok X G (c.fact 35 (f := .free "sorted") rfl), List.forall_mem_cons.mpr ⟨He.free_ok X G (c.fact 36 (f := .free "tuple") rfl), fun _ h => absurd h (List.not_mem_nil)⟩⟩⟩⟩⟩⟩⟩⟩⟩⟩⟩⟩⟩
theorem glb (X : K.In h) (G : h.Ns mainGlobals mg) (c : xb K = true) : ∀ x v, (x, v) ∈ tab.globs → (∃ u v', mg x = some u ∧ RelV v' u ∧ ∀ H, Rp K w H v v') ∧ mutD (.d v) = false := fun x v hx => globB_ok X G (List.all_eq_true.mp (an2 c).1 (x, v) hx)
theorem ini_InvalidFacts (X : K.In base) (G : base.Ns mainGlobals mg) (c : He.SaysD fa fn K) (q : oexB K (He.ga K "InvalidFacts") (He.ma K (He.ga K "InvalidFacts") "__init__") = true) (no : PySem.W.findIn K (.ref (He.ga K "InvalidFacts")) "index" = some none) : ∃ fI fd ps, ExMk P w K mg base ["index"] (He.ga K "InvalidFacts") 1 fI fd ps := by
  obtain ⟨fd, F⟩ := c.def_ 24 (d := di_InvalidFacts) rfl
  obtain ⟨T, i1, i2⟩ := oex_of q
  refine ⟨_, fd, ["self", "index"], T, i1, i2, ?_, ?_⟩
  · exact init_ok (qual := "InvalidFacts.__init__") (params := di_InvalidFacts.params) (scope := di_InvalidFacts.scope) F T no (fnScB_ok (by decide +kernel)) (He.free_ok X G (c.fact 24 (f := .free "ValueError") rfl)) (by decide +kernel) (by decide +kernel) (by decide +kernel) (by decide +kernel) (by decide +kernel) (fun _ => rfl)
  · exact FunD.bindsN (show FunD K "__init__" "InvalidFacts.__init__" di_InvalidFacts.params di_InvalidFacts.body di_InvalidFacts.scope [] [] _ fd from F) fun _ _ _ _ _ _ us hl => match us, hl with | [_, _], _ => rfl
theorem exc (X : K.In h) (G : h.Ns mainGlobals mg) (XB : K.In base) (GB : base.Ns mainGlobals mg) (c : He.SaysD fa fn K) (b : xb K = true) : ∀ x k fl ib, (x, k, fl, ib) ∈ tab.excs → ∃ C fI fd ps, ExRd K mg (exOf cl w K) x k fl ib w C ∧ ExMk P w K mg base fl C 1 fI fd ps := by
  intro x k fl ib hx
  obtain ⟨q1, q2⟩ := an2 (List.all_eq_true.mp (an2 b).2 (x, k, fl, ib) hx)
  have R := exRd_of (w := w) X G q1
  simp only [tab, List.mem_cons, List.not_mem_nil, or_false, Prod.mk.injEq] at hx
  rcases hx with ⟨rfl, rfl, rfl, rfl⟩
  · obtain ⟨fI, fd, ps, M⟩ := ini_InvalidFacts (P := P) (w := w) XB GB c q2 (R.no _ (List.mem_cons_self ..))
    exact ⟨_, fI, fd, ps, R, M⟩
end
end Lk01
/-! text LpA -/
set_option Elab.async false
set_option linter.all false
set_option maxRecDepth 100000
set_option maxHeartbeats 4000000
namespace Ld
open PySem PySem.Spec L2
open PyProof.Rows hiding St

/-! ### plain laws: what defs give -/
/-- results, one after another -/
def bR {α β : Type} (r : Res α) (f : α → G → Res β) : Res β := match r with
  | .ok a g => f a g
  | .exc c fs g => .exc c fs g
  | .no => .no
@[simp ↓] theorem bnd_app {α β : Type} (m : M α) (f : α → M β) (g : G) : bnd m f g = bR (m g) f := rfl
@[simp] theorem bR_ok {α β : Type} (a : α) (g : G) (f : α → G → Res β) : bR (.ok a g) f = f a g := rfl
@[simp] theorem bR_no {α β : Type} (f : α → G → Res β) : bR .no f = .no := rfl
@[simp] theorem bR_exc {α β : Type} (c : Nat) (fs : List (Str × PyData)) (g : G) (f : α → G → Res β) : bR (.exc c fs g : Res α) f = .exc c fs g := rfl
/-- what follows is looked at when it is due -/
@[simp] theorem rt_app {α : Type} (a : α) (g : G) : rt a g = .ok a g := rfl
@[simp] theorem no_app {α : Type} (g : G) : (no : M α) g = .no := rfl
@[simp] theorem bR_bR {α β γ : Type} (r : Res α) (f : α → G → Res β) (k : β → G → Res γ) : bR (bR r f) k = bR r fun a g => bR (f a g) k := by cases r <;> rfl
@[simp] theorem ofO_some (α : Type) (a : α) (g : G) : ofO (some a) g = .ok a g := rfl
@[simp] theorem ofO_none (α : Type) (g : G) : ofO (none : Option α) g = .no := rfl
@[simp] theorem dat_d (x : PyData) (g : G) : dat (.d x) g = .ok x g := rfl
@[simp] theorem ret_some (x : PyData) (g : G) : ret (some x) g = .ok (.d x) g := rfl
@[simp] theorem retB_some (x : Bool) (g : G) : retB (some x) g = .ok (.d (.bool x)) g := rfl
@[simp] theorem intO_int (i : Int) (g : G) : intO (.d (.int i)) g = .ok (some i) g := rfl
@[simp] theorem noX_app {α : Type} (m : M α) (g : G) : noX m g = (match m g with | .ok a g' => .ok a g' | _ => .no) := rfl
@[simp] theorem grdB_true {α : Type} (m : M α) (g : G) : grdB true m g = m g := rfl
@[simp] theorem datas_nil (g : G) : datas [] g = .ok [] g := rfl
@[simp] theorem datas_cons (x : PyData) (r : List DV) (g : G) : datas (.d x :: r) g = bR (datas r g) fun xs => rt (x :: xs) := rfl
@[simp] theorem tst_app (m : M DV) (g : G) : tst m g = bR (m g) fun x => bnd (dat x) fun x => ofO (truthO x) := rfl
@[simp] theorem itmM_app (m : M DV) (g : G) : itmM m g = bR (m g) fun x => bnd (dat x) fun x => ofO (itemsD x) := rfl
@[simp ↓] theorem thenS_nx (r : Env' → M Fl) (δ : Env') (g : G) : thenS r (.nx δ) g = r δ g := rfl
@[simp ↓] theorem thenS_rt (r : Env' → M Fl) (x : DV) (g : G) : thenS r (.rt x) g = .ok (.rt x) g := rfl
@[simp ↓] theorem thenS_bk (r : Env' → M Fl) (δ : Env') (g : G) : thenS r (.bk δ) g = .ok (.bk δ) g := rfl
@[simp ↓] theorem thenS_ct (r : Env' → M Fl) (δ : Env') (g : G) : thenS r (.ct δ) g = .ok (.ct δ) g := rfl
@[simp] theorem endD_rt (x : DV) (g : G) : endD (.rt x) g = .ok x g := rfl
@[simp] theorem endD_nx (δ : Env') (g : G) : endD (.nx δ) g = .ok (.d .none) g := rfl
@[simp] theorem penG_0 (p : Pen) : penG 0 .pen (some p) = .ok (.d (.list (p.cells.map .int))) (some p) := rfl
@[simp] theorem penG_1 (p : Pen) : penG 1 .pen (some p) = .ok (.d (.int p.seat)) (some p) := rfl
@[simp] theorem penG_2 (p : Pen) : penG 2 .pen (some p) = .ok (.d (.int p.left)) (some p) := rfl
@[simp] theorem penS_app (x m : M DV) (f : Pen → Int → Pen) (δ : Env') (g : G) : penS x m f δ g = bR (x g) fun x => match x with
  | .pen => bnd m fun y => bnd (intO y) fun o => match o with
    | some n => bnd penOf fun p => bnd (setG (f p n)) fun _ => rt (.nx δ)
    | none => no
  | _ => no := rfl
@[simp] theorem penOf_app (p : Pen) : penOf (some p) = .ok p (some p) := rfl
@[simp] theorem setG_app (p : Pen) (g : G) : setG p g = .ok () (some p) := rfl
/-! operations on known values -/
@[simp] theorem binD_add (i j : Int) : binD .add (.int i) (.int j) = some (.int (i + j)) := rfl
@[simp] theorem binD_sub (i j : Int) : binD .sub (.int i) (.int j) = some (.int (i - j)) := rfl
theorem binD_mul {i j : Int} (h : bits64 i = true ∨ bits64 j = true) : binD .mul (.int i) (.int j) = some (.int (i * j)) := by
  have e : (bits64 i || bits64 j) = true := by rw [Bool.or_eq_true]; exact h
  simp only [binD, e]
theorem binD_mod {i j : Int} (h : 0 < j) : binD .mod (.int i) (.int j) = some (.int (i % j)) := by
  have e : decide (0 < j) = true := decide_eq_true h
  simp only [binD, e]
theorem binD_fdiv {i j : Int} (h : 0 < j) (h2 : j < 1073741824) : binD .fdiv (.int i) (.int j) = some (.int (i / j)) := by
  have e : (decide (0 < j) && decide (j < 1073741824)) = true := by rw [decide_eq_true h, decide_eq_true h2]; rfl
  simp only [binD, e]
theorem binD_addT {xs ys : List PyData} (h : xs.length + ys.length ≤ maxLen) : binD .add (.tuple xs) (.tuple ys) = some (.tuple (xs ++ ys)) := by
  simp only [binD, decide_eq_true h]
theorem binD_addL {xs ys : List PyData} (h : xs.length + ys.length ≤ maxLen) : binD .add (.list xs) (.list ys) = some (.list (xs ++ ys)) := by
  simp only [binD, decide_eq_true h]
@[simp] theorem biD_int (i : Int) : biD .int [.int i] = some (.int i) := rfl
@[simp] theorem biD_lenL (xs : List PyData) : biD .len [.list xs] = some (.int xs.length) := rfl
@[simp] theorem biD_lenT (xs : List PyData) : biD .len [.tuple xs] = some (.int xs.length) := rfl
@[simp] theorem biD_tupL (xs : List PyData) : biD .tuple [.list xs] = some (.tuple xs) := rfl
@[simp] theorem biD_tupT (xs : List PyData) : biD .tuple [.tuple xs] = some (.tuple xs) := rfl
@[simp] theorem biD_lstL (xs : List PyData) : biD .list [.list xs] = some (.list xs) := rfl
@[simp] theorem biD_lstT (xs : List PyData) : biD .list [.tuple xs] = some (.list xs) := rfl
theorem phi {T : List (Str × Def)} {n : Nat} {x : Str} {d : Def} (h : T.lookup x = some d) : Phi T (n + 1) x = @runD ⟨Phi T n⟩ d := by
  show (match T.lookup x with | some d => @runD ⟨Phi T n⟩ d | none => fun _ => no) = _
  rw [h]
/-! ### it comes to a good end -/
def Gd {α : Type} (r : Res α) (P : α → G → Prop) : Prop := ∃ a g, r = .ok a g ∧ P a g
theorem Gd.ok {α : Type} {a : α} {g : G} {P : α → G → Prop} (h : P a g) : Gd (.ok a g) P := ⟨a, g, rfl, h⟩
theorem Gd.bR {α β : Type} {r : Res α} {f : α → G → Res β} {P : α → G → Prop} {Q : β → G → Prop} (h : Gd r P) (h2 : ∀ a g, P a g → Gd (f a g) Q) : Gd (bR r f) Q := by
  obtain ⟨a, g, e, ha⟩ := h
  rw [e]
  exact h2 a g ha
theorem Gd.imp {α : Type} {r : Res α} {P P' : α → G → Prop} (h : Gd r P) (h2 : ∀ a g, P a g → P' a g) : Gd r P' := by
  obtain ⟨a, g, e, ha⟩ := h
  exact ⟨a, g, e, h2 a g ha⟩
def HasPen (g : G) : Prop := ∃ p, g = some p
theorem HasPen.mk {p : Pen} : HasPen (some p) := ⟨p, rfl⟩
def IsB (x : DV) : Prop := ∃ b, x = .d (.bool b)
theorem IsB.mk {b : Bool} : IsB (.d (.bool b)) := ⟨b, rfl⟩
def IsI (x : DV) : Prop := ∃ i, x = .d (.int i)
theorem IsI.mk {i : Int} : IsI (.d (.int i)) := ⟨i, rfl⟩
/-- on to the next, the state being so -/
def NxI (I : Env' → Prop) (fl : Fl) : Prop := ∃ δ, fl = .nx δ ∧ I δ
theorem NxI.mk {I : Env' → Prop} {δ : Env'} (h : I δ) : NxI I (.nx δ) := ⟨δ, rfl, h⟩
/-- with a pen -/
def Ok {α : Type} (m : M α) (P : α → Prop) : Prop := ∀ p : Pen, Gd (m (some p)) fun a g => P a ∧ HasPen g
section
variable {α β : Type} {m : M α} {f : α → M β} {P : α → Prop} {Q : β → Prop}
theorem Ok.rt {a : α} (h : P a) : Ok (rt a) P := fun p => ⟨a, _, rfl, h, p, rfl⟩
theorem Ok.bnd (h : Ok m P) (h2 : ∀ a, P a → Ok (f a) Q) : Ok (bnd m f) Q := fun p => by
  refine Gd.bR (h p) fun a g ⟨ha, p', e⟩ => ?_
  subst e
  exact h2 a ha p'
theorem Ok.imp {P' : α → Prop} (h : Ok m P) (h2 : ∀ a, P a → P' a) : Ok m P' := fun p => (h p).imp fun a g ⟨ha, q⟩ => ⟨h2 a ha, q⟩
theorem Ok.noX (h : Ok m P) : Ok (noX m) P := fun p => by
  obtain ⟨a, g, e, ha⟩ := h p
  exact ⟨a, g, by unfold Ld.noX; rw [e], ha⟩
theorem Ok.of (h : ∀ p, m (some p) = .ok a (some p)) (ha : P a) : Ok m P := fun p => ⟨a, _, h p, ha, p, rfl⟩
/-- a comprehension of draws -/
theorem Ok.loopC {f : PyData → M (Option PyData)} {R : PyData → PyData → Prop} : ∀ {ds : List PyData}, (∀ d ∈ ds, Ok (f d) fun o => ∃ y, o = some y ∧ R d y) → Ok (loopC f ds) fun ys => Paired R ds ys
  | [], _ => .rt .nil
  | d :: ds, h => by
    refine Ok.bnd (h d (.head _)) fun o ⟨y, e, hr⟩ => ?_
    refine Ok.bnd (Ok.loopC fun x hx => h x (.tail _ hx)) fun ys hys => ?_
    subst e
    exact .rt (.cons hr hys)
/-- a loop that always goes to its end -/
theorem Ok.turns {f : PyData → Env' → M Fl} {I : Env' → Prop} : ∀ {ds : List PyData} {δ : Env'}, I δ → (∀ d ∈ ds, ∀ δ, I δ → Ok (f d δ) (NxI I)) → Ok (turns f ds δ) (NxI I)
  | [], δ, h, _ => .rt ⟨δ, rfl, h⟩
  | d :: ds, δ, h, hf => by
    refine Ok.bnd (hf d (.head _) δ h) fun fl ⟨δ', e, h'⟩ => ?_
    subst e
    exact Ok.turns h' fun x hx => hf x (.tail _ hx)
end
/-! ### without a pen: values alone -/
theorem loopC_pure {f : PyData → M (Option PyData)} {h : PyData → Option PyData} {g : G} : ∀ {ds : List PyData}, (∀ d ∈ ds, f d g = .ok (h d) g) → loopC f ds g = .ok (ds.filterMap h) g
  | [], _ => rfl
  | d :: ds, q => by
    show bR (f d g) (fun o => bnd (loopC f ds) fun ys => rt (match o with | some y => y :: ys | none => ys)) = _
    rw [q d (.head _)]
    show bR (loopC f ds g) (fun ys => rt (match h d with | some y => y :: ys | none => ys)) = _
    rw [loopC_pure fun x hx => q x (.tail _ hx), List.filterMap_cons]
    cases h d <;> rfl
theorem loopC_map {f : PyData → M (Option PyData)} {h : PyData → PyData} {g : G} {ds : List PyData} (q : ∀ d ∈ ds, f d g = .ok (some (h d)) g) : loopC f ds g = .ok (ds.map h) g := by
  rw [loopC_pure (h := fun d => some (h d)) q, List.filterMap_eq_map']
/-! ### the law's draws -/
def dFresh : Def := ⟨1, 8, (.cons (.asg (.tp (.cons (.nm 1) (.cons (.nm 2) .nil))) (.tup (.cons (.pget 0 1) (.cons (.pget 0 0) .nil)))) (.cons (.pen1 0 (.bin .add (.var 1) (.cst (.int (1))))) (.cons (.asg (.nm 3) (.ife (.cmp .ne (.var 2) (.lst .nil)) (.sub (.var 2) (.bin .mod (.bi .int (.cons (.var 1) .nil)) (.bi .len (.cons (.var 2) .nil)))) (.cst (.int (0))))) (.cons (.ife (.and (.cmp .lt (.var 1) (.bi .len (.cons (.var 2) .nil))) (.cmp .ge (.var 3) (.bin .pow (.cst (.int (10))) (.cst (.int (18)))))) (.cons (.ret (.bin .sub (.var 3) (.bin .pow (.cst (.int (10))) (.cst (.int (18)))))) .nil) .nil) (.cons (.asg (.nm 4) (.cst (.int (2305843009213693951)))) (.cons (.asg (.nm 5) (.bin .mod (.bi .int (.cons (.bin .add (.bin .add (.bin .mul (.var 3) (.cst (.int (48271)))) (.bin .mul (.cst (.int (60013))) (.var 1))) (.cst (.int (31)))) .nil)) (.var 4))) (.cons (.asg (.nm 6) (.var 5)) (.cons (.loop (.nm 7) (.rng .omit (.cst (.int (6)))) (.cons (.asg (.nm 5) (.bin .mod (.bi .int (.cons (.bin .add (.bin .add (.bin .mul (.var 5) (.var 5)) (.bin .mul (.bin .mul (.cst (.int (70139))) (.bin .add (.var 7) (.cst (.int (5))))) (.bin .add (.var 1) (.cst (.int (1)))))) (.var 3)) .nil)) (.var 4))) (.cons (.asg (.nm 6) (.bin .add (.bin .mul (.var 6) (.var 4)) (.var 5))) .nil))) (.cons (.ret (.var 6)) .nil)))))))))⟩
def dDraw : Def := ⟨2, 3, (.cons (.ife (.cmp .lt (.pget 0 2) (.var 1)) (.cons (.pen2 0 (.call "_law_fresh" (.cons (.var 0) .nil))) .nil) .nil) (.cons (.asg (.nm 2) (.bin .mod (.bi .int (.cons (.pget 0 2) .nil)) (.var 1))) (.cons (.pen2 0 (.bin .fdiv (.bi .int (.cons (.pget 0 2) .nil)) (.var 1))) (.cons (.ret (.var 2)) .nil))))⟩
def dOneOf : Def := ⟨2, 2, (.cons (.ret (.sub (.var 1) (.call "_law_draw" (.cons (.var 0) (.cons (.bi .len (.cons (.var 1) .nil)) .nil))))) .nil)⟩
def dPen : Def := ⟨1, 1, (.cons (.mkpen (.bi .list (.cons (.slc (.var 0) .omit (.cst (.int (63)))) .nil))) .nil)⟩
theorem ordG_int (a b : Int) (k : Bool) : ordG (.int a) (.int b) k = some k := by
  unfold ordG
  simp [PySem.W.alike, beqD, PyData.depth]
theorem not_lt_dec (a b : Int) : (!decide (b < a)) = decide (a ≤ b) := by rw [← decide_not]; congr 1; simp
@[simp] theorem cmpD_lt_int (a b : Int) : cmpD .lt (.int a) (.int b) = some (decide (a < b)) := by simp only [cmpD, ordG_int, PySem.W.dataLt_int]
@[simp] theorem cmpD_gt_int (a b : Int) : cmpD .gt (.int a) (.int b) = some (decide (b < a)) := by simp only [cmpD, ordG_int, PySem.W.dataLt_int]
@[simp] theorem cmpD_le_int (a b : Int) : cmpD .le (.int a) (.int b) = some (decide (a ≤ b)) := by simp only [cmpD, ordG_int, PySem.W.dataLt_int, not_lt_dec]
@[simp] theorem cmpD_ge_int (a b : Int) : cmpD .ge (.int a) (.int b) = some (decide (b ≤ a)) := by simp only [cmpD, ordG_int, PySem.W.dataLt_int, not_lt_dec]
/-! equality -/
theorem plainAll_map {α : Type} (f : α → PyData) (h : ∀ a, (f a).plain = true) : ∀ l : List α, PyData.plainAll (l.map f) = true
  | [] => rfl
  | a :: l => by rw [List.map_cons, PyData.plainAll, h a, plainAll_map f h l]; rfl
@[simp] theorem plain_int (i : Int) : (PyData.int i).plain = true := by rw [PyData.plain]
@[simp] theorem plain_list (xs : List PyData) : (PyData.list xs).plain = PyData.plainAll xs := by rw [PyData.plain]
@[simp] theorem plain_tuple (xs : List PyData) : (PyData.tuple xs).plain = PyData.plainAll xs := by rw [PyData.plain]
theorem eqD_of {a b : PyData} (h1 : a.plain = true) (h2 : b.plain = true) (h3 : a.depth ≤ 60 ∨ b.depth ≤ 60) : eqD a b = some (PyData.eqv a b) := by
  have e : (a.plain && (b.plain && (decide (a.depth ≤ 60) || decide (b.depth ≤ 60)))) = true := by
    rw [h1, h2, Bool.true_and, Bool.true_and, Bool.or_eq_true, decide_eq_true_eq, decide_eq_true_eq]; exact h3
  simp only [eqD, e]
theorem eqv_nilL (xs : List PyData) : PyData.eqv (.list xs) (.list []) = xs.isEmpty := by
  cases xs <;> simp [PyData.eqv, PyData.eqvAll]
theorem eqv_nilT (xs : List PyData) : PyData.eqv (.tuple xs) (.tuple []) = xs.isEmpty := by
  cases xs <;> simp [PyData.eqv, PyData.eqvAll]
theorem eqD_nilL {xs : List PyData} (h : PyData.plainAll xs = true) : eqD (.list xs) (.list []) = some xs.isEmpty := by
  rw [eqD_of (by simp [h]) (by simp [PyData.plainAll]) (.inr (by simp [PyData.depth, PyData.depthAll])), eqv_nilL]
theorem eqD_nilT {xs : List PyData} (h : PyData.plainAll xs = true) : eqD (.tuple xs) (.tuple []) = some xs.isEmpty := by
  rw [eqD_of (by simp [h]) (by simp [PyData.plainAll]) (.inr (by simp [PyData.depth, PyData.depthAll])), eqv_nilT]
@[simp] theorem cmpD_eq (a b : PyData) : cmpD .eq a b = eqD a b := rfl
@[simp] theorem cmpD_ne (a b : PyData) : cmpD .ne a b = notO (eqD a b) := rfl
@[simp] theorem notO_some_ (b : Bool) : notO (some b) = some (!b) := rfl
@[simp] theorem truthO_bool (b : Bool) : truthO (.bool b) = some b := rfl
@[simp] theorem truthO_none : truthO .none = some false := rfl
@[simp] theorem eqD_intsL_nil (ns : List Int) : eqD (.list (ns.map .int)) (.list []) = some (ns.map PyData.int).isEmpty := eqD_nilL (plainAll_map _ plain_int ns)
theorem ixN_at {n : Nat} {i : Nat} (h : i < n) : ixN n (i : Int) = some i := by
  unfold ixN
  simp
  omega
theorem bits_of {i : Int} (h1 : -18446744073709551616 < i) (h2 : i < 18446744073709551616) : bits64 i = true := by
  unfold bits64
  rw [Bool.and_eq_true]
  exact ⟨decide_eq_true (by simpa using h1), decide_eq_true (by simpa using h2)⟩
theorem rngD_one {n : Int} (h1 : -1000000000 < n) (h2 : n ≤ 10000000) : rngD none (some n) = some (rangeD 0 n.toNat) := by
  have e : (decide (-1000000000 < n) && decide (n ≤ maxLen)) = true := by
    rw [decide_eq_true h1, decide_eq_true (show n ≤ maxLen from h2)]; rfl
  simp only [rngD, e]
theorem mem_rangeD {d : PyData} : ∀ {n : Nat} {lo : Int}, d ∈ rangeD lo n → ∃ i, d = .int i ∧ lo ≤ i ∧ i < lo + n
  | 0, lo, h => by cases h
  | n + 1, lo, h => by
    rcases List.mem_cons.mp h with rfl | h
    · exact ⟨lo, rfl, by omega, by omega⟩
    · obtain ⟨i, e, h1, h2⟩ := mem_rangeD h
      exact ⟨i, e, by omega, by omega⟩
theorem subD_list {xs : List PyData} {i : Nat} (h : i < xs.length) : subD (.list xs) (.int i) = some xs[i] := by
  show atI xs _ = _
  unfold atI
  rw [ixN_at h, Option.bind_some, List.getElem?_eq_getElem h]
theorem subD_tuple {xs : List PyData} {i : Nat} (h : i < xs.length) : subD (.tuple xs) (.int i) = some xs[i] := by
  show atI xs _ = _
  unfold atI
  rw [ixN_at h, Option.bind_some, List.getElem?_eq_getElem h]
@[simp] theorem pow1018 : binD .pow (.int 10) (.int 18) = some (.int 1000000000000000000) := by decide +kernel
theorem bits_prime : bits64 2305843009213693951 = true := by decide +kernel
/-! more of equality, of texts -/
theorem depth_int (i : Int) : (PyData.int i).depth = 0 := by rw [PyData.depth]
@[simp] theorem eqD_int (a b : Int) : eqD (.int a) (.int b) = some (decide (a = b)) := by
  rw [eqD_of (plain_int a) (plain_int b) (.inl (by rw [depth_int]; omega)), PyData.eqv]
  rfl
theorem eqD_str (x y : Str) : eqD (.str x) (.str y) = some (x == y) := by
  rw [eqD_of (by rw [PyData.plain]) (by rw [PyData.plain]) (.inl (by rw [PyData.depth]; omega)), PyData.eqv]
@[simp] theorem eqD_str_self (x : Str) : eqD (.str x) (.str x) = some true := by rw [eqD_str]; simp
theorem reprD_ok {d : PyData} (h1 : d.showable = true) (h2 : d.depth ≤ 60) (h3 : d.shown.length ≤ 10000000) : reprD d = some (.str d.shown) := by
  have e : (d.showable && (decide (d.depth ≤ 60) && decide (d.shown.length ≤ maxLen))) = true := by
    rw [h1, decide_eq_true h2, decide_eq_true (show d.shown.length ≤ maxLen from h3)]; rfl
  simp only [reprD, e]
@[simp] theorem biD_repr (d : PyData) : biD .repr [d] = reprD d := by cases d <;> rfl
@[simp] theorem cmpD_isnot (a : PyData) : cmpD .isnot a .none = some (!beqD a .none) := by cases a <;> rfl
@[simp] theorem cmpD_is (a : PyData) : cmpD .is a .none = some (beqD a .none) := by cases a <;> rfl
@[simp] theorem subT0 (a : PyData) (r : List PyData) : subD (.tuple (a :: r)) (.int 0) = some a := subD_tuple (xs := a :: r) (i := 0) (by simp)
@[simp] theorem subT1 (a b : PyData) (r : List PyData) : subD (.tuple (a :: b :: r)) (.int 1) = some b := subD_tuple (xs := a :: b :: r) (i := 1) (by simp)
@[simp] theorem subT2 (a b c : PyData) (r : List PyData) : subD (.tuple (a :: b :: c :: r)) (.int 2) = some c := subD_tuple (xs := a :: b :: c :: r) (i := 2) (by simp)
@[simp] theorem subL0 (a : PyData) (r : List PyData) : subD (.list (a :: r)) (.int 0) = some a := subD_list (xs := a :: r) (i := 0) (by simp)
@[simp] theorem itemsD_list (xs : List PyData) : itemsD (.list xs) = some xs := rfl
@[simp] theorem itemsD_tuple (xs : List PyData) : itemsD (.tuple xs) = some xs := rfl
@[simp] theorem isi_tt (xs : List PyData) : isiD .tuple (.tuple xs) = true := rfl
@[simp] theorem isi_ii (i : Int) : isiD .int (.int i) = true := rfl
@[simp] theorem isi_bi (i : Int) : isiD .bool (.int i) = false := rfl
end Ld
/-! text LpB -/
set_option Elab.async false
set_option linter.all false
set_option maxRecDepth 100000
set_option maxHeartbeats 4000000
namespace Ld
open PySem PySem.Spec L2
open PyProof.Rows hiding St
/-! ### the evaluation, step by step -/
section
variable [Fs]
def kTst  : DV → G → Res Bool := fun x => bnd (dat x) fun x => ofO (truthO x)
omit [Fs] in
@[simp ↓] theorem kTst_d (x : PyData) (g : G) : kTst (.d x) g = ofO (truthO x) g := rfl
@[simp ↓] theorem tst_ev (r : Bool) (a : E) (δ : Env') (g : G) : tst (ev r a δ) g = bR (ev r a δ g) kTst := rfl
def kItm  : DV → G → Res (List PyData) := fun x => bnd (dat x) fun x => ofO (itemsD x)
omit [Fs] in
@[simp ↓] theorem kItm_d (x : PyData) (g : G) : kItm (.d x) g = ofO (itemsD x) g := rfl
@[simp ↓] theorem itm_ev (r : Bool) (a : E) (δ : Env') (g : G) : itmM (ev r a δ) g = bR (ev r a δ g) kItm := rfl
omit [Fs] in
@[simp ↓] theorem opt_om (m : M DV) (g : G) : optM .omit m g = .ok none g := rfl
theorem opt_ne {e : E} (h : omitE e = false) (r : Bool) (δ : Env') (g : G) : optM e (ev r e δ) g = bR (ev r e δ g) intO := by cases e <;> first | rfl | cases h
omit [Fs] in
@[simp ↓] theorem cnd_om (m : M DV) (g : G) : cndM .omit m g = .ok true g := rfl
theorem cnd_ne {e : E} (h : omitE e = false) (r : Bool) (δ : Env') (g : G) : cndM e (ev r e δ) g = bR (ev r e δ g) kTst := by cases e <;> first | rfl | cases h
@[simp ↓] theorem cnd_var (i : Nat) (r : Bool) (δ : Env') (g : G) : cndM (.var i) (ev r (.var i) δ) g = bR (ev r (.var i) δ g) kTst := rfl
@[simp ↓] theorem opt_var (i : Nat) (r : Bool) (δ : Env') (g : G) : optM (.var i) (ev r (.var i) δ) g = bR (ev r (.var i) δ g) intO := rfl
@[simp ↓] theorem cnd_cst (d : PyData) (r : Bool) (δ : Env') (g : G) : cndM (.cst d) (ev r (.cst d) δ) g = bR (ev r (.cst d) δ g) kTst := rfl
@[simp ↓] theorem opt_cst (d : PyData) (r : Bool) (δ : Env') (g : G) : optM (.cst d) (ev r (.cst d) δ) g = bR (ev r (.cst d) δ g) intO := rfl
@[simp ↓] theorem cnd_glob (n : Str) (d : PyData) (r : Bool) (δ : Env') (g : G) : cndM (.glob n d) (ev r (.glob n d) δ) g = bR (ev r (.glob n d) δ g) kTst := rfl
@[simp ↓] theorem opt_glob (n : Str) (d : PyData) (r : Bool) (δ : Env') (g : G) : optM (.glob n d) (ev r (.glob n d) δ) g = bR (ev r (.glob n d) δ g) intO := rfl
@[simp ↓] theorem cnd_tup (es : Es) (r : Bool) (δ : Env') (g : G) : cndM (.tup es) (ev r (.tup es) δ) g = bR (ev r (.tup es) δ g) kTst := rfl
@[simp ↓] theorem opt_tup (es : Es) (r : Bool) (δ : Env') (g : G) : optM (.tup es) (ev r (.tup es) δ) g = bR (ev r (.tup es) δ g) intO := rfl
@[simp ↓] theorem cnd_lst (es : Es) (r : Bool) (δ : Env') (g : G) : cndM (.lst es) (ev r (.lst es) δ) g = bR (ev r (.lst es) δ g) kTst := rfl
@[simp ↓] theorem opt_lst (es : Es) (r : Bool) (δ : Env') (g : G) : optM (.lst es) (ev r (.lst es) δ) g = bR (ev r (.lst es) δ g) intO := rfl
@[simp ↓] theorem cnd_sub (a b : E) (r : Bool) (δ : Env') (g : G) : cndM (.sub a b) (ev r (.sub a b) δ) g = bR (ev r (.sub a b) δ g) kTst := rfl
@[simp ↓] theorem opt_sub (a b : E) (r : Bool) (δ : Env') (g : G) : optM (.sub a b) (ev r (.sub a b) δ) g = bR (ev r (.sub a b) δ g) intO := rfl
@[simp ↓] theorem cnd_bin (o : Bop) (a b : E) (r : Bool) (δ : Env') (g : G) : cndM (.bin o a b) (ev r (.bin o a b) δ) g = bR (ev r (.bin o a b) δ g) kTst := rfl
@[simp ↓] theorem opt_bin (o : Bop) (a b : E) (r : Bool) (δ : Env') (g : G) : optM (.bin o a b) (ev r (.bin o a b) δ) g = bR (ev r (.bin o a b) δ g) intO := rfl
@[simp ↓] theorem cnd_neg (a : E) (r : Bool) (δ : Env') (g : G) : cndM (.neg a) (ev r (.neg a) δ) g = bR (ev r (.neg a) δ g) kTst := rfl
@[simp ↓] theorem opt_neg (a : E) (r : Bool) (δ : Env') (g : G) : optM (.neg a) (ev r (.neg a) δ) g = bR (ev r (.neg a) δ g) intO := rfl
@[simp ↓] theorem cnd_not (a : E) (r : Bool) (δ : Env') (g : G) : cndM (.not a) (ev r (.not a) δ) g = bR (ev r (.not a) δ g) kTst := rfl
@[simp ↓] theorem opt_not (a : E) (r : Bool) (δ : Env') (g : G) : optM (.not a) (ev r (.not a) δ) g = bR (ev r (.not a) δ g) intO := rfl
@[simp ↓] theorem cnd_and (a b : E) (r : Bool) (δ : Env') (g : G) : cndM (.and a b) (ev r (.and a b) δ) g = bR (ev r (.and a b) δ g) kTst := rfl
@[simp ↓] theorem opt_and (a b : E) (r : Bool) (δ : Env') (g : G) : optM (.and a b) (ev r (.and a b) δ) g = bR (ev r (.and a b) δ g) intO := rfl
@[simp ↓] theorem cnd_or (a b : E) (r : Bool) (δ : Env') (g : G) : cndM (.or a b) (ev r (.or a b) δ) g = bR (ev r (.or a b) δ g) kTst := rfl
@[simp ↓] theorem opt_or (a b : E) (r : Bool) (δ : Env') (g : G) : optM (.or a b) (ev r (.or a b) δ) g = bR (ev r (.or a b) δ g) intO := rfl
@[simp ↓] theorem cnd_cmp (o : Cop) (a b : E) (r : Bool) (δ : Env') (g : G) : cndM (.cmp o a b) (ev r (.cmp o a b) δ) g = bR (ev r (.cmp o a b) δ g) kTst := rfl
@[simp ↓] theorem opt_cmp (o : Cop) (a b : E) (r : Bool) (δ : Env') (g : G) : optM (.cmp o a b) (ev r (.cmp o a b) δ) g = bR (ev r (.cmp o a b) δ g) intO := rfl
@[simp ↓] theorem cnd_chn (o p : Cop) (a b c : E) (r : Bool) (δ : Env') (g : G) : cndM (.chn o p a b c) (ev r (.chn o p a b c) δ) g = bR (ev r (.chn o p a b c) δ g) kTst := rfl
@[simp ↓] theorem opt_chn (o p : Cop) (a b c : E) (r : Bool) (δ : Env') (g : G) : optM (.chn o p a b c) (ev r (.chn o p a b c) δ) g = bR (ev r (.chn o p a b c) δ g) intO := rfl
@[simp ↓] theorem cnd_ife (c a b : E) (r : Bool) (δ : Env') (g : G) : cndM (.ife c a b) (ev r (.ife c a b) δ) g = bR (ev r (.ife c a b) δ g) kTst := rfl
@[simp ↓] theorem opt_ife (c a b : E) (r : Bool) (δ : Env') (g : G) : optM (.ife c a b) (ev r (.ife c a b) δ) g = bR (ev r (.ife c a b) δ g) intO := rfl
@[simp ↓] theorem cnd_call (n : Str) (es : Es) (r : Bool) (δ : Env') (g : G) : cndM (.call n es) (ev r (.call n es) δ) g = bR (ev r (.call n es) δ g) kTst := rfl
@[simp ↓] theorem opt_call (n : Str) (es : Es) (r : Bool) (δ : Env') (g : G) : optM (.call n es) (ev r (.call n es) δ) g = bR (ev r (.call n es) δ g) intO := rfl
@[simp ↓] theorem cnd_isi (a : E) (t : Ty) (r : Bool) (δ : Env') (g : G) : cndM (.isi a t) (ev r (.isi a t) δ) g = bR (ev r (.isi a t) δ g) kTst := rfl
@[simp ↓] theorem opt_isi (a : E) (t : Ty) (r : Bool) (δ : Env') (g : G) : optM (.isi a t) (ev r (.isi a t) δ) g = bR (ev r (.isi a t) δ g) intO := rfl
@[simp ↓] theorem cnd_bi (b : Bi) (es : Es) (r : Bool) (δ : Env') (g : G) : cndM (.bi b es) (ev r (.bi b es) δ) g = bR (ev r (.bi b es) δ g) kTst := rfl
@[simp ↓] theorem opt_bi (b : Bi) (es : Es) (r : Bool) (δ : Env') (g : G) : optM (.bi b es) (ev r (.bi b es) δ) g = bR (ev r (.bi b es) δ g) intO := rfl
@[simp ↓] theorem cnd_meth (m : Mt) (o : E) (es : Es) (r : Bool) (δ : Env') (g : G) : cndM (.meth m o es) (ev r (.meth m o es) δ) g = bR (ev r (.meth m o es) δ g) kTst := rfl
@[simp ↓] theorem opt_meth (m : Mt) (o : E) (es : Es) (r : Bool) (δ : Env') (g : G) : optM (.meth m o es) (ev r (.meth m o es) δ) g = bR (ev r (.meth m o es) δ g) intO := rfl
def kLst2  : List PyData → G → Res DV := fun ys g => .ok (.d (.list ys)) g
omit [Fs] in
@[simp ↓] theorem kLst2_a (ys : List PyData) (g : G) : kLst2 ys g = .ok (.d (.list ys)) g := rfl
def slotG (r : Bool) (o : Option (Option Slot)) : M DV := match o with
  | some (some (.val x)) => rt (.d x)
  | some (some (.own x)) => (match r with
    | true => rt (.d x)
    | false => no)
  | some (some .pen) => rt .pen
  | _ => no
omit [Fs] in
@[simp ↓] theorem slotG_v (r : Bool) (x : PyData) (g : G) : slotG r (some (some (.val x))) g = .ok (.d x) g := rfl
omit [Fs] in
@[simp ↓] theorem slotG_o (x : PyData) (g : G) : slotG true (some (some (.own x))) g = .ok (.d x) g := rfl
omit [Fs] in
@[simp ↓] theorem slotG_p (r : Bool) (g : G) : slotG r (some (some .pen)) g = .ok .pen g := rfl
omit [Fs] in
@[simp ↓] theorem slotV_g (r : Bool) (δ : Env') (i : Nat) (g : G) : slotV r δ i g = slotG r δ[i]? g := rfl
def ownG (o : Option (Option Slot)) : M PyData := match o with
  | some (some (.own x)) => rt x
  | _ => no
omit [Fs] in
@[simp ↓] theorem ownG_o (x : PyData) (g : G) : ownG (some (some (.own x))) g = .ok x g := rfl
omit [Fs] in
@[simp ↓] theorem ownAt_g (δ : Env') (i : Nat) (g : G) : ownAt δ i g = ownG δ[i]? g := rfl
def kOwnL  : PyData → G → Res (List PyData) := fun x => match x with
  | .list xs => rt xs
  | _ => no
omit [Fs] in
@[simp ↓] theorem kOwnL_l (xs : List PyData) (g : G) : kOwnL (.list xs) g = .ok xs g := rfl
omit [Fs] in
@[simp ↓] theorem ownL_g (δ : Env') (i : Nat) (g : G) : ownL δ i g = bR (ownG δ[i]? g) kOwnL := rfl
@[simp ↓] theorem ev_var (r : Bool) (i : Nat) (δ : Env') (g : G) : ev r (.var i) δ g = slotG r δ[i]? g := rfl
@[simp ↓] theorem ev_cst (r : Bool) (d : PyData) (δ : Env') (g : G) : ev r (.cst d) δ g = .ok (.d d) g := rfl
@[simp ↓] theorem ev_glob (r : Bool) (n : Str) (d : PyData) (δ : Env') (g : G) : ev r (.glob n d) δ g = .ok (.d d) g := rfl
@[simp ↓] theorem ev_dnew (r : Bool) (δ : Env') (g : G) : ev r .dnew δ g = .ok (.d (.dict [])) g := rfl
def kCons (x : DV) : List DV → G → Res (List DV) := fun xs => rt (x :: xs)
omit [Fs] in
@[simp ↓] theorem kCons_a (x : DV) (xs : List DV) (g : G) : kCons x xs g = .ok (x :: xs) g := rfl
def kEvs (r : Bool) (es : Es) (δ : Env') : DV → G → Res (List DV) := fun x g => bR (evs r es δ g) (kCons x)
@[simp ↓] theorem kEvs_a (r : Bool) (es : Es) (δ : Env') (x : DV) (g : G) : kEvs r es δ x g = bR (evs r es δ g) (kCons x) := rfl
@[simp ↓] theorem evs_nil (r : Bool) (δ : Env') (g : G) : evs r .nil δ g = .ok [] g := rfl
@[simp ↓] theorem evs_cons (r : Bool) (e : E) (es : Es) (δ : Env') (g : G) : evs r (.cons e es) δ g = bR (ev r e δ g) (kEvs r es δ) := rfl
def kTup2  : List PyData → G → Res DV := fun ds => rt (.d (.tuple ds))
omit [Fs] in
@[simp ↓] theorem kTup2_a (ds : List PyData) (g : G) : kTup2 ds g = .ok (.d (.tuple ds)) g := rfl
def kTup  : List DV → G → Res DV := fun xs g => bR (datas xs g) kTup2
omit [Fs] in
@[simp ↓] theorem kTup_a (xs : List DV) (g : G) : kTup xs g = bR (datas xs g) kTup2 := rfl
@[simp ↓] theorem ev_tup (r : Bool) (es : Es) (δ : Env') (g : G) : ev r (.tup es) δ g = bR (evs false es δ g) kTup := rfl
def kLst  : List DV → G → Res DV := fun xs g => bR (datas xs g) kLst2
omit [Fs] in
@[simp ↓] theorem kLst_a (xs : List DV) (g : G) : kLst xs g = bR (datas xs g) kLst2 := rfl
@[simp ↓] theorem ev_lst (r : Bool) (es : Es) (δ : Env') (g : G) : ev r (.lst es) δ g = bR (evs false es δ g) kLst := rfl
def kDat (x : PyData) : List PyData → G → Res (List PyData) := fun xs => rt (x :: xs)
omit [Fs] in
@[simp ↓] theorem kDat_a (x : PyData) (xs : List PyData) (g : G) : kDat x xs g = .ok (x :: xs) g := rfl
omit [Fs] in
@[simp ↓] theorem dat_cons (x : PyData) (r : List DV) (g : G) : datas (.d x :: r) g = bR (datas r g) (kDat x) := rfl
def kSub2 (x : DV) : DV → G → Res DV := fun y => bnd (dat x) fun x => bnd (dat y) fun y => ret (subD x y)
omit [Fs] in
@[simp ↓] theorem kSub2_d (x y : PyData) (g : G) : kSub2 (.d x) (.d y) g = ret (subD x y) g := rfl
def kSub1 (b : E) (δ : Env') : DV → G → Res DV := fun x g => bR (ev false b δ g) (kSub2 x)
@[simp ↓] theorem kSub1_a (b : E) (δ : Env') (x : DV) (g : G) : kSub1 b δ x g = bR (ev false b δ g) (kSub2 x) := rfl
@[simp ↓] theorem ev_sub (r : Bool) (a b : E) (δ : Env') (g : G) : ev r (.sub a b) δ g = bR (ev true a δ g) (kSub1 b δ) := rfl
def kSlc3 (x : DV) (l : Option Int) : Option Int → G → Res DV := fun h => bnd (dat x) fun x => ret (slcD x l h)
omit [Fs] in
@[simp ↓] theorem kSlc3_d (x : PyData) (l h : Option Int) (g : G) : kSlc3 (.d x) l h g = ret (slcD x l h) g := rfl
def kSlc2 (hi : E) (δ : Env') (x : DV) : Option Int → G → Res DV := fun l g => bR (optM hi (ev false hi δ) g) (kSlc3 x l)
@[simp ↓] theorem kSlc2_a (hi : E) (δ : Env') (x : DV) (l : Option Int) (g : G) : kSlc2 hi δ x l g = bR (optM hi (ev false hi δ) g) (kSlc3 x l) := rfl
def kSlc1 (lo hi : E) (δ : Env') : DV → G → Res DV := fun x g => bR (optM lo (ev false lo δ) g) (kSlc2 hi δ x)
@[simp ↓] theorem kSlc1_a (lo hi : E) (δ : Env') (x : DV) (g : G) : kSlc1 lo hi δ x g = bR (optM lo (ev false lo δ) g) (kSlc2 hi δ x) := rfl
@[simp ↓] theorem ev_slc (r : Bool) (a lo hi : E) (δ : Env') (g : G) : ev r (.slc a lo hi) δ g = bR (ev true a δ g) (kSlc1 lo hi δ) := rfl
def kRev  : DV → G → Res DV := fun x => bnd (dat x) fun x => ret (revD x)
omit [Fs] in
@[simp ↓] theorem kRev_d (x : PyData) (g : G) : kRev (.d x) g = ret (revD x) g := rfl
@[simp ↓] theorem ev_rev (r : Bool) (a : E) (δ : Env') (g : G) : ev r (.rev a) δ g = bR (ev true a δ g) kRev := rfl
def kBin2 (o : Bop) (x : DV) : DV → G → Res DV := fun y => bnd (dat x) fun x => bnd (dat y) fun y => ret (binD o x y)
omit [Fs] in
@[simp ↓] theorem kBin2_d (o : Bop) (x y : PyData) (g : G) : kBin2 o (.d x) (.d y) g = ret (binD o x y) g := rfl
def kBin1 (o : Bop) (b : E) (δ : Env') : DV → G → Res DV := fun x g => bR (ev true b δ g) (kBin2 o x)
@[simp ↓] theorem kBin1_a (o : Bop) (b : E) (δ : Env') (x : DV) (g : G) : kBin1 o b δ x g = bR (ev true b δ g) (kBin2 o x) := rfl
@[simp ↓] theorem ev_bin (r : Bool) (o : Bop) (a b : E) (δ : Env') (g : G) : ev r (.bin o a b) δ g = bR (ev true a δ g) (kBin1 o b δ) := rfl
def kNeg  : DV → G → Res DV := fun x => bnd (intO x) fun o => match o with
  | some i => rt (.d (.int (-i)))
  | none => no
omit [Fs] in
@[simp ↓] theorem kNeg_d (i : Int) (g : G) : kNeg (.d (.int i)) g = .ok (.d (.int (-i))) g := rfl
@[simp ↓] theorem ev_neg (r : Bool) (a : E) (δ : Env') (g : G) : ev r (.neg a) δ g = bR (ev false a δ g) kNeg := rfl
def kNot  : Bool → G → Res DV := fun b => rt (.d (.bool (!b)))
omit [Fs] in
@[simp ↓] theorem kNot_a (b : Bool) (g : G) : kNot b g = .ok (.d (.bool (!b))) g := rfl
@[simp ↓] theorem ev_not (r : Bool) (a : E) (δ : Env') (g : G) : ev r (.not a) δ g = bR (bR (ev true a δ g) kTst) kNot := rfl
def kAnd2 (r : Bool) (b : E) (δ : Env') (x : PyData) : Bool → G → Res DV := fun k => match k with
  | true => ev r b δ
  | false => rt (.d x)
@[simp ↓] theorem kAnd2_t (r : Bool) (b : E) (δ : Env') (x : PyData) (g : G) : kAnd2 r b δ x true g = ev r b δ g := rfl
@[simp ↓] theorem kAnd2_f (r : Bool) (b : E) (δ : Env') (x : PyData) (g : G) : kAnd2 r b δ x false g = .ok (.d x) g := rfl
def kAnd1 (r : Bool) (b : E) (δ : Env') : DV → G → Res DV := fun x => bnd (dat x) fun x => bnd (ofO (truthO x)) (kAnd2 r b δ x)
@[simp ↓] theorem kAnd1_d (r : Bool) (b : E) (δ : Env') (x : PyData) (g : G) : kAnd1 r b δ (.d x) g = bR (ofO (truthO x) g) (kAnd2 r b δ x) := rfl
@[simp ↓] theorem ev_and (r : Bool) (a b : E) (δ : Env') (g : G) : ev r (.and a b) δ g = bR (ev r a δ g) (kAnd1 r b δ) := rfl
def kOr2 (r : Bool) (b : E) (δ : Env') (x : PyData) : Bool → G → Res DV := fun k => match k with
  | true => rt (.d x)
  | false => ev r b δ
@[simp ↓] theorem kOr2_t (r : Bool) (b : E) (δ : Env') (x : PyData) (g : G) : kOr2 r b δ x true g = .ok (.d x) g := rfl
@[simp ↓] theorem kOr2_f (r : Bool) (b : E) (δ : Env') (x : PyData) (g : G) : kOr2 r b δ x false g = ev r b δ g := rfl
def kOr1 (r : Bool) (b : E) (δ : Env') : DV → G → Res DV := fun x => bnd (dat x) fun x => bnd (ofO (truthO x)) (kOr2 r b δ x)
@[simp ↓] theorem kOr1_d (r : Bool) (b : E) (δ : Env') (x : PyData) (g : G) : kOr1 r b δ (.d x) g = bR (ofO (truthO x) g) (kOr2 r b δ x) := rfl
@[simp ↓] theorem ev_or (r : Bool) (a b : E) (δ : Env') (g : G) : ev r (.or a b) δ g = bR (ev r a δ g) (kOr1 r b δ) := rfl
def kCmp2 (o : Cop) (x : DV) : DV → G → Res DV := fun y => bnd (dat x) fun x => bnd (dat y) fun y => retB (cmpD o x y)
omit [Fs] in
@[simp ↓] theorem kCmp2_d (o : Cop) (x y : PyData) (g : G) : kCmp2 o (.d x) (.d y) g = retB (cmpD o x y) g := rfl
def kCmp1 (o : Cop) (b : E) (δ : Env') : DV → G → Res DV := fun x g => bR (ev true b δ g) (kCmp2 o x)
@[simp ↓] theorem kCmp1_a (o : Cop) (b : E) (δ : Env') (x : DV) (g : G) : kCmp1 o b δ x g = bR (ev true b δ g) (kCmp2 o x) := rfl
@[simp ↓] theorem ev_cmp (r : Bool) (o : Cop) (a b : E) (δ : Env') (g : G) : ev r (.cmp o a b) δ g = bR (ev true a δ g) (kCmp1 o b δ) := rfl
def kChn4 (p : Cop) (y : PyData) : DV → G → Res DV := fun z => bnd (dat z) fun z => retB (cmpD p y z)
omit [Fs] in
@[simp ↓] theorem kChn4_d (p : Cop) (y z : PyData) (g : G) : kChn4 p y (.d z) g = retB (cmpD p y z) g := rfl
def kChn3 (p : Cop) (c : E) (δ : Env') (y : PyData) : Bool → G → Res DV := fun k => match k with
  | true => fun g => bR (ev false c δ g) (kChn4 p y)
  | false => rt (.d (.bool false))
@[simp ↓] theorem kChn3_t (p : Cop) (c : E) (δ : Env') (y : PyData) (g : G) : kChn3 p c δ y true g = bR (ev false c δ g) (kChn4 p y) := rfl
@[simp ↓] theorem kChn3_f (p : Cop) (c : E) (δ : Env') (y : PyData) (g : G) : kChn3 p c δ y false g = .ok (.d (.bool false)) g := rfl
def kChn2 (o p : Cop) (c : E) (δ : Env') (x : DV) : DV → G → Res DV := fun y => bnd (dat x) fun x => bnd (dat y) fun y => bnd (ofO (cmpD o x y)) (kChn3 p c δ y)
@[simp ↓] theorem kChn2_d (o p : Cop) (c : E) (δ : Env') (x y : PyData) (g : G) : kChn2 o p c δ (.d x) (.d y) g = bR (ofO (cmpD o x y) g) (kChn3 p c δ y) := rfl
def kChn1 (o p : Cop) (b c : E) (δ : Env') : DV → G → Res DV := fun x g => bR (ev false b δ g) (kChn2 o p c δ x)
@[simp ↓] theorem kChn1_a (o p : Cop) (b c : E) (δ : Env') (x : DV) (g : G) : kChn1 o p b c δ x g = bR (ev false b δ g) (kChn2 o p c δ x) := rfl
@[simp ↓] theorem ev_chn (r : Bool) (o p : Cop) (a b c : E) (δ : Env') (g : G) : ev r (.chn o p a b c) δ g = bR (ev false a δ g) (kChn1 o p b c δ) := rfl
def kIfe (r : Bool) (a b : E) (δ : Env') : Bool → G → Res DV := fun k => match k with
  | true => ev r a δ
  | false => ev r b δ
@[simp ↓] theorem kIfe_t (r : Bool) (a b : E) (δ : Env') (g : G) : kIfe r a b δ true g = ev r a δ g := rfl
@[simp ↓] theorem kIfe_f (r : Bool) (a b : E) (δ : Env') (g : G) : kIfe r a b δ false g = ev r b δ g := rfl
@[simp ↓] theorem ev_ife (r : Bool) (c a b : E) (δ : Env') (g : G) : ev r (.ife c a b) δ g = bR (bR (ev true c δ g) kTst) (kIfe r a b δ) := rfl
@[simp ↓] theorem ev_call (r : Bool) (n : Str) (es : Es) (δ : Env') (g : G) : ev r (.call n es) δ g = bR (evs false es δ g) (Fs.f n) := rfl
def kIsi (t : Ty) : DV → G → Res DV := fun x => bnd (dat x) fun x => rt (.d (.bool (isiD t x)))
omit [Fs] in
@[simp ↓] theorem kIsi_d (t : Ty) (x : PyData) (g : G) : kIsi t (.d x) g = .ok (.d (.bool (isiD t x))) g := rfl
@[simp ↓] theorem ev_isi (r : Bool) (a : E) (t : Ty) (δ : Env') (g : G) : ev r (.isi a t) δ g = bR (ev true a δ g) (kIsi t) := rfl
def kBi2 (b : Bi) : List PyData → G → Res DV := fun ds => ret (biD b ds)
omit [Fs] in
@[simp ↓] theorem kBi2_a (b : Bi) (ds : List PyData) (g : G) : kBi2 b ds g = ret (biD b ds) g := rfl
def kBi (b : Bi) : List DV → G → Res DV := fun xs g => bR (datas xs g) (kBi2 b)
omit [Fs] in
@[simp ↓] theorem kBi_a (b : Bi) (xs : List DV) (g : G) : kBi b xs g = bR (datas xs g) (kBi2 b) := rfl
@[simp ↓] theorem ev_bi (r : Bool) (b : Bi) (es : Es) (δ : Env') (g : G) : ev r (.bi b es) δ g = bR (evs true es δ g) (kBi b) := rfl
def kSset2  : List PyData → G → Res DV := fun ds => bnd (ofO (ssetD ds)) kLst2
omit [Fs] in
@[simp ↓] theorem kSset2_a (ds : List PyData) (g : G) : kSset2 ds g = bR (ofO (ssetD ds) g) kLst2 := rfl
def kSset  : DV → G → Res DV := fun x => bnd (dat x) fun x => bnd (ofO (itemsD x)) kSset2
omit [Fs] in
@[simp ↓] theorem kSset_d (x : PyData) (g : G) : kSset (.d x) g = bR (ofO (itemsD x) g) kSset2 := rfl
@[simp ↓] theorem ev_sset (r : Bool) (a : E) (δ : Env') (g : G) : ev r (.sset a) δ g = bR (ev true a δ g) kSset := rfl
def kLc4  : DV → G → Res (Option PyData) := fun y => bnd (dat y) fun y => rt (some y)
omit [Fs] in
@[simp ↓] theorem kLc4_d (y : PyData) (g : G) : kLc4 (.d y) g = .ok (some y) g := rfl
def kLc3 (x : E) (δ : Env') : Bool → G → Res (Option PyData) := fun k => match k with
  | true => fun g => bR (ev false x δ g) kLc4
  | false => rt none
@[simp ↓] theorem kLc3_t (x : E) (δ : Env') (g : G) : kLc3 x δ true g = bR (ev false x δ g) kLc4 := rfl
@[simp ↓] theorem kLc3_f (x : E) (δ : Env') (g : G) : kLc3 x δ false g = .ok none g := rfl
def kLc2 (x c : E) : Env' → G → Res (Option PyData) := fun δ g => bR (cndM c (ev true c δ) g) (kLc3 x δ)
@[simp ↓] theorem kLc2_a (x c : E) (δ : Env') (g : G) : kLc2 x c δ g = bR (cndM c (ev true c δ) g) (kLc3 x δ) := rfl
def fLc (x : E) (t : Tg) (c : E) (δ : Env') (d : PyData) : M (Option PyData) := bnd (ofO (asgT t d (wipeD δ t.slots))) (kLc2 x c)
@[simp ↓] theorem fLc_a (x : E) (t : Tg) (c : E) (δ : Env') (d : PyData) (g : G) : fLc x t c δ d g = bR (ofO (asgT t d (wipeD δ t.slots)) g) (kLc2 x c) := rfl
def kNoX {α : Type} (m : M α) : M α := noX m
def kLc (x : E) (t : Tg) (c : E) (δ : Env') : List PyData → G → Res DV := fun ds => bnd (noX (loopC (fLc x t c δ) ds)) kLst2
@[simp ↓] theorem kLc_a (x : E) (t : Tg) (c : E) (δ : Env') (ds : List PyData) (g : G) : kLc x t c δ ds g = bR (noX (loopC (fLc x t c δ) ds) g) kLst2 := rfl
theorem fLc_eq (x : E) (t : Tg) (c : E) (δ : Env') : (fun d => bnd (ofO (asgT t d (wipeD δ t.slots))) fun δ' => turnC (cndM c (ev true c δ')) (ev false x δ')) = fLc x t c δ := by
  funext d g
  show bR _ _ = bR _ _
  congr 1
@[simp ↓] theorem ev_lc (r : Bool) (x : E) (t : Tg) (it c : E) (δ : Env') (g : G) : ev r (.lc x t it c) δ g = bR (bR (ev true it δ g) kItm) (kLc x t c δ) := by
  have e : ev r (.lc x t it c) δ g = bR (bR (ev true it δ g) kItm) fun ds => bnd (noX (loopC (fun d => bnd (ofO (asgT t d (wipeD δ t.slots))) fun δ' => turnC (cndM c (ev true c δ')) (ev false x δ')) ds)) fun ys => rt (.d (.list ys)) := rfl
  rw [e, fLc_eq]
  rfl
def kDc4 (k : DV) : DV → G → Res (Option (PyData × PyData)) := fun y => bnd (dat k) fun x => bnd (dat y) fun y => rt (some (x, y))
omit [Fs] in
@[simp ↓] theorem kDc4_d (x y : PyData) (g : G) : kDc4 (.d x) (.d y) g = .ok (some (x, y)) g := rfl
def kDc5 (v : E) (δ : Env') : DV → G → Res (Option (PyData × PyData)) := fun x g => bR (ev false v δ g) (kDc4 x)
@[simp ↓] theorem kDc5_a (v : E) (δ : Env') (x : DV) (g : G) : kDc5 v δ x g = bR (ev false v δ g) (kDc4 x) := rfl
def kDc3 (k v : E) (δ : Env') : Bool → G → Res (Option (PyData × PyData)) := fun b => match b with
  | true => fun g => bR (ev false k δ g) (kDc5 v δ)
  | false => rt none
@[simp ↓] theorem kDc3_t (k v : E) (δ : Env') (g : G) : kDc3 k v δ true g = bR (ev false k δ g) (kDc5 v δ) := rfl
@[simp ↓] theorem kDc3_f (k v : E) (δ : Env') (g : G) : kDc3 k v δ false g = .ok none g := rfl
def kDc2 (k v c : E) : Env' → G → Res (Option (PyData × PyData)) := fun δ g => bR (cndM c (ev true c δ) g) (kDc3 k v δ)
@[simp ↓] theorem kDc2_a (k v c : E) (δ : Env') (g : G) : kDc2 k v c δ g = bR (cndM c (ev true c δ) g) (kDc3 k v δ) := rfl
def fDc (k v : E) (t : Tg) (c : E) (δ : Env') (d : PyData) : M (Option (PyData × PyData)) := bnd (ofO (asgT t d (wipeD δ t.slots))) (kDc2 k v c)
@[simp ↓] theorem fDc_a (k v : E) (t : Tg) (c : E) (δ : Env') (d : PyData) (g : G) : fDc k v t c δ d g = bR (ofO (asgT t d (wipeD δ t.slots)) g) (kDc2 k v c) := rfl
def kDct2  : List (PyData × PyData) → G → Res DV := fun kvs => rt (.d (.dict kvs))
omit [Fs] in
@[simp ↓] theorem kDct2_a (kvs : List (PyData × PyData)) (g : G) : kDct2 kvs g = .ok (.d (.dict kvs)) g := rfl
def kDc (k v : E) (t : Tg) (c : E) (δ : Env') : List PyData → G → Res DV := fun ds => bnd (noX (loopD (fDc k v t c δ) ds [])) kDct2
@[simp ↓] theorem kDc_a (k v : E) (t : Tg) (c : E) (δ : Env') (ds : List PyData) (g : G) : kDc k v t c δ ds g = bR (noX (loopD (fDc k v t c δ) ds []) g) kDct2 := rfl
theorem fDc_eq (k v : E) (t : Tg) (c : E) (δ : Env') : (fun d => bnd (ofO (asgT t d (wipeD δ t.slots))) fun δ' => turnD (cndM c (ev true c δ')) (ev false k δ') (ev false v δ')) = fDc k v t c δ := by
  funext d g
  show bR _ _ = bR _ _
  congr 1
@[simp ↓] theorem ev_dc (r : Bool) (k v : E) (t : Tg) (it c : E) (δ : Env') (g : G) : ev r (.dc k v t it c) δ g = bR (bR (ev true it δ g) kItm) (kDc k v t c δ) := by
  have e : ev r (.dc k v t it c) δ g = bR (bR (ev true it δ g) kItm) fun ds => bnd (noX (loopD (fun d => bnd (ofO (asgT t d (wipeD δ t.slots))) fun δ' => turnD (cndM c (ev true c δ')) (ev false k δ') (ev false v δ')) ds [])) fun ys => rt (.d (.dict ys)) := rfl
  rw [e, fDc_eq]
  rfl
def kRng2 (l : Option Int) : Option Int → G → Res DV := fun h => bnd (ofO (rngD l h)) kLst2
omit [Fs] in
@[simp ↓] theorem kRng2_a (l h : Option Int) (g : G) : kRng2 l h g = bR (ofO (rngD l h) g) kLst2 := rfl
def kRng1 (hi : E) (δ : Env') : Option Int → G → Res DV := fun l g => bR (optM hi (ev false hi δ) g) (kRng2 l)
@[simp ↓] theorem kRng1_a (hi : E) (δ : Env') (l : Option Int) (g : G) : kRng1 hi δ l g = bR (optM hi (ev false hi δ) g) (kRng2 l) := rfl
@[simp ↓] theorem ev_rng (r : Bool) (lo hi : E) (δ : Env') (g : G) : ev r (.rng lo hi) δ g = bR (optM lo (ev false lo δ) g) (kRng1 hi δ) := rfl
def kEnm  : List PyData → G → Res DV := fun ds => rt (.d (.list (enumD 0 ds)))
omit [Fs] in
@[simp ↓] theorem kEnm_a (ds : List PyData) (g : G) : kEnm ds g = .ok (.d (.list (enumD 0 ds))) g := rfl
@[simp ↓] theorem ev_enm (r : Bool) (a : E) (δ : Env') (g : G) : ev r (.enm a) δ g = bR (bR (ev r a δ g) kItm) kEnm := rfl
def kMeth2 (m : Mt) (x : PyData) : List PyData → G → Res DV := fun ds => ret (methD m x ds)
omit [Fs] in
@[simp ↓] theorem kMeth2_a (m : Mt) (x : PyData) (ds : List PyData) (g : G) : kMeth2 m x ds g = ret (methD m x ds) g := rfl
def kMeth1 (m : Mt) (x : PyData) : List DV → G → Res DV := fun xs g => bR (datas xs g) (kMeth2 m x)
omit [Fs] in
@[simp ↓] theorem kMeth1_a (m : Mt) (x : PyData) (xs : List DV) (g : G) : kMeth1 m x xs g = bR (datas xs g) (kMeth2 m x) := rfl
def kMeth (m : Mt) (es : Es) (δ : Env') : DV → G → Res DV := fun x => bnd (dat x) fun x => bnd (evs true es δ) (kMeth1 m x)
@[simp ↓] theorem kMeth_d (m : Mt) (es : Es) (δ : Env') (x : PyData) (g : G) : kMeth m es δ (.d x) g = bR (evs true es δ g) (kMeth1 m x) := rfl
@[simp ↓] theorem ev_meth (r : Bool) (m : Mt) (o : E) (es : Es) (δ : Env') (g : G) : ev r (.meth m o es) δ g = bR (ev true o δ g) (kMeth m es δ) := rfl
@[simp ↓] theorem ev_pget (r : Bool) (i k : Nat) (δ : Env') (g : G) : ev r (.pget i k) δ g = bR (slotG false δ[i]? g) (penG k) := rfl
def kZip2 (st : Bool) (xs : List PyData) : List PyData → G → Res DV := fun ys => match !st || decide (xs.length = ys.length) with
  | true => rt (.d (.list (zipD xs ys)))
  | false => no
omit [Fs] in
theorem kZip2_ok {st : Bool} {xs ys : List PyData} (h : xs.length = ys.length) (g : G) : kZip2 st xs ys g = .ok (.d (.list (zipD xs ys))) g := by
  unfold kZip2
  rw [decide_eq_true h, Bool.or_true]
  rfl
def kZip1 (r st : Bool) (b : E) (δ : Env') : List PyData → G → Res DV := fun xs g => bR (itmM (ev r b δ) g) (kZip2 st xs)
@[simp ↓] theorem kZip1_a (r st : Bool) (b : E) (δ : Env') (xs : List PyData) (g : G) : kZip1 r st b δ xs g = bR (bR (ev r b δ g) kItm) (kZip2 st xs) := rfl
@[simp ↓] theorem ev_zip (r st : Bool) (a b : E) (δ : Env') (g : G) : ev r (.zip st a b) δ g = bR (bR (ev r a δ g) kItm) (kZip1 r st b δ) := rfl
omit [Fs] in
@[simp ↓] theorem asgT_tp (ts : Tgs) (xs : List PyData) (δ : Env') : asgT (.tp ts) (.tuple xs) δ = asgTs ts xs δ := rfl
omit [Fs] in
@[simp ↓] theorem asgTs_nil (δ : Env') : asgTs .nil [] δ = some δ := rfl
omit [Fs] in
@[simp ↓] theorem asgTs_cons (t : Tg) (r : Tgs) (x : PyData) (xs : List PyData) (δ : Env') : asgTs (.cons t r) (x :: xs) δ = (asgT t x δ).bind (asgTs r xs) := by (simp only [asgTs]; cases asgT t x δ <;> rfl)
omit [Fs] in
@[simp] theorem asgT_nm {i : Nat} {x : PyData} {δ : Env'} (h : i < δ.length) : asgT (.nm i) x δ = some (δ.set i (some (.val x))) := by simp only [asgT, decide_eq_true h]
omit [Fs] in
@[simp ↓] theorem wipe_nil (δ : Env') : wipeD δ [] = δ := rfl
omit [Fs] in
@[simp ↓] theorem wipe_cons (δ : Env') (v : Nat) (vs : List Nat) : wipeD δ (v :: vs) = (wipeD δ vs).set v none := rfl
omit [Fs] in
@[simp ↓] theorem slots_nm (i : Nat) : (Tg.nm i).slots = [i] := rfl
omit [Fs] in
@[simp ↓] theorem slots_tp (ts : Tgs) : (Tg.tp ts).slots = ts.slots := rfl
omit [Fs] in
@[simp ↓] theorem slots_nil  : Tgs.nil.slots = [] := rfl
omit [Fs] in
@[simp ↓] theorem slots_cons (t : Tg) (r : Tgs) : (Tgs.cons t r).slots = t.slots ++ r.slots := rfl
@[simp ↓] theorem evSs_nil (L : List Nat) (δ : Env') (g : G) : evSs .nil L δ g = .ok (.nx δ) g := rfl
def kSs (r : Ss) (L : List Nat) : Fl → G → Res Fl := thenS fun δ => evSs r L δ
@[simp ↓] theorem kSs_nx (r : Ss) (L : List Nat) (δ : Env') (g : G) : kSs r L (.nx δ) g = evSs r L δ g := rfl
@[simp ↓] theorem kSs_rt (r : Ss) (L : List Nat) (x : DV) (g : G) : kSs r L (.rt x) g = .ok (.rt x) g := rfl
@[simp ↓] theorem kSs_bk (r : Ss) (L : List Nat) (δ : Env') (g : G) : kSs r L (.bk δ) g = .ok (.bk δ) g := rfl
@[simp ↓] theorem kSs_ct (r : Ss) (L : List Nat) (δ : Env') (g : G) : kSs r L (.ct δ) g = .ok (.ct δ) g := rfl
@[simp ↓] theorem evSs_cons (s : S) (r : Ss) (L : List Nat) (δ : Env') (g : G) : evSs (.cons s r) L δ g = bR (evS s L δ g) (kSs r L) := rfl
@[simp ↓] theorem evS_pass (L : List Nat) (δ : Env') (g : G) : evS .pass L δ g = .ok (.nx δ) g := rfl
@[simp ↓] theorem evS_brk (L : List Nat) (δ : Env') (g : G) : evS .brk L δ g = .ok (.bk δ) g := rfl
@[simp ↓] theorem evS_cont (L : List Nat) (δ : Env') (g : G) : evS .cont L δ g = .ok (.ct δ) g := rfl
def kRet  : DV → G → Res Fl := fun x => rt (.rt x)
omit [Fs] in
@[simp ↓] theorem kRet_a (x : DV) (g : G) : kRet x g = .ok (.rt x) g := rfl
@[simp ↓] theorem evS_ret (e : E) (L : List Nat) (δ : Env') (g : G) : evS (.ret e) L δ g = bR (ev false e δ g) kRet := rfl
def kNx (δ : Env') : DV → G → Res Fl := fun _ => rt (.nx δ)
omit [Fs] in
@[simp ↓] theorem kNx_a (δ : Env') (x : DV) (g : G) : kNx δ x g = .ok (.nx δ) g := rfl
@[simp ↓] theorem evS_expr (e : E) (L : List Nat) (δ : Env') (g : G) : evS (.expr e) L δ g = bR (ev true e δ g) (kNx δ) := rfl
omit [Fs] in
theorem free_nil (is : List Nat) : free [] is = true := by unfold free; simp
def kFl  : Env' → G → Res Fl := fun δ => rt (.nx δ)
omit [Fs] in
@[simp ↓] theorem kFl_a (δ : Env') (g : G) : kFl δ g = .ok (.nx δ) g := rfl
def kAsg (t : Tg) (δ : Env') : DV → G → Res Fl := fun x => match x, t with
  | .d d, t => bnd (ofO (asgT t d δ)) kFl
  | .pen, .nm i => rt (.nx (δ.set i (some .pen)))
  | .pen, .tp _ => no
omit [Fs] in
@[simp ↓] theorem kAsg_d (t : Tg) (δ : Env') (d : PyData) (g : G) : kAsg t δ (.d d) g = bR (ofO (asgT t d δ) g) kFl := rfl
omit [Fs] in
@[simp ↓] theorem kAsg_p (i : Nat) (δ : Env') (g : G) : kAsg (.nm i) δ .pen g = .ok (.nx (δ.set i (some .pen))) g := rfl
@[simp ↓] theorem evS_asg (t : Tg) (e : E) (δ : Env') (g : G) : evS (.asg t e) [] δ g = bR (ev false e δ g) (kAsg t δ) := by
  simp only [evS, free_nil]
  show bR _ _ = bR _ _
  congr 1
def kOwn (i : Nat) (δ : Env') : DV → G → Res Fl := fun x => bnd (dat x) fun d => match decide (i < δ.length) && mutD (.d d) with
  | true => rt (.nx (δ.set i (some (.own d))))
  | false => no
omit [Fs] in
@[simp] theorem kOwn_l {i : Nat} {δ : Env'} (h : i < δ.length) (xs : List PyData) (g : G) : kOwn i δ (.d (.list xs)) g = .ok (.nx (δ.set i (some (.own (.list xs))))) g := by
  show (match decide (i < δ.length) && mutD (.d (.list xs)) with | true => rt (Fl.nx (δ.set i (some (.own (.list xs))))) | false => no) g = _
  rw [decide_eq_true h]
  rfl
omit [Fs] in
@[simp] theorem kOwn_d {i : Nat} {δ : Env'} (h : i < δ.length) (xs : List (PyData × PyData)) (g : G) : kOwn i δ (.d (.dict xs)) g = .ok (.nx (δ.set i (some (.own (.dict xs))))) g := by
  show (match decide (i < δ.length) && mutD (.d (.dict xs)) with | true => rt (Fl.nx (δ.set i (some (.own (.dict xs))))) | false => no) g = _
  rw [decide_eq_true h]
  rfl
@[simp ↓] theorem evS_own (i : Nat) (e : E) (δ : Env') (g : G) : evS (.own i e) [] δ g = bR (ev false e δ g) (kOwn i δ) := by
  simp only [evS, free_nil]
  rfl
def kFrz (i : Nat) (δ : Env') : PyData → G → Res Fl := fun d => rt (.nx (δ.set i (some (.val d))))
omit [Fs] in
@[simp ↓] theorem kFrz_a (i : Nat) (δ : Env') (d : PyData) (g : G) : kFrz i δ d g = .ok (.nx (δ.set i (some (.val d)))) g := rfl
@[simp ↓] theorem evS_frz (i : Nat) (δ : Env') (g : G) : evS (.frz i) [] δ g = bR (ownG δ[i]? g) (kFrz i δ) := by
  simp only [evS, free_nil]
  rfl
def kSetO (i : Nat) (δ : Env') : PyData → G → Res Fl := fun x => rt (.nx (δ.set i (some (.own x))))
omit [Fs] in
@[simp ↓] theorem kSetO_a (i : Nat) (δ : Env') (x : PyData) (g : G) : kSetO i δ x g = .ok (.nx (δ.set i (some (.own x)))) g := rfl
def kApp2 (i : Nat) (δ : Env') (xs : List PyData) : DV → G → Res Fl := fun y => bnd (dat y) fun d => bnd (ofO (appD xs [d])) (kSetO i δ)
omit [Fs] in
@[simp ↓] theorem kApp2_d (i : Nat) (δ : Env') (xs : List PyData) (d : PyData) (g : G) : kApp2 i δ xs (.d d) g = bR (ofO (appD xs [d]) g) (kSetO i δ) := rfl
def kApp1 (i : Nat) (e : E) (δ : Env') : List PyData → G → Res Fl := fun xs g => bR (ev false e δ g) (kApp2 i δ xs)
@[simp ↓] theorem kApp1_a (i : Nat) (e : E) (δ : Env') (xs : List PyData) (g : G) : kApp1 i e δ xs g = bR (ev false e δ g) (kApp2 i δ xs) := rfl
@[simp ↓] theorem evS_app (i : Nat) (e : E) (δ : Env') (g : G) : evS (.app i e) [] δ g = bR (bR (ownG δ[i]? g) kOwnL) (kApp1 i e δ) := by
  simp only [evS, free_nil]
  rfl
def kExt2 (i : Nat) (δ : Env') (xs : List PyData) : List PyData → G → Res Fl := fun ds => bnd (ofO (appD xs ds)) (kSetO i δ)
omit [Fs] in
@[simp ↓] theorem kExt2_a (i : Nat) (δ : Env') (xs ds : List PyData) (g : G) : kExt2 i δ xs ds g = bR (ofO (appD xs ds) g) (kSetO i δ) := rfl
def kExt1 (i : Nat) (e : E) (δ : Env') : List PyData → G → Res Fl := fun xs g => bR (bR (ev true e δ g) kItm) (kExt2 i δ xs)
@[simp ↓] theorem kExt1_a (i : Nat) (e : E) (δ : Env') (xs : List PyData) (g : G) : kExt1 i e δ xs g = bR (bR (ev true e δ g) kItm) (kExt2 i δ xs) := rfl
@[simp ↓] theorem evS_ext (i : Nat) (e : E) (δ : Env') (g : G) : evS (.ext i e) [] δ g = bR (bR (ownG δ[i]? g) kOwnL) (kExt1 i e δ) := by
  simp only [evS, free_nil]
  rfl
def kPut3 (i : Nat) (δ : Env') (y : DV) (x : PyData) : DV → G → Res Fl := fun z => bnd (dat y) fun d => bnd (dat z) fun kd => bnd (ofO (putD x kd d)) (kSetO i δ)
omit [Fs] in
@[simp ↓] theorem kPut3_d (i : Nat) (δ : Env') (y x z : PyData) (g : G) : kPut3 i δ (.d y) x (.d z) g = bR (ofO (putD x z y) g) (kSetO i δ) := rfl
def kPut2 (i : Nat) (k : E) (δ : Env') (y : DV) : PyData → G → Res Fl := fun x g => bR (ev false k δ g) (kPut3 i δ y x)
@[simp ↓] theorem kPut2_a (i : Nat) (k : E) (δ : Env') (y : DV) (x : PyData) (g : G) : kPut2 i k δ y x g = bR (ev false k δ g) (kPut3 i δ y x) := rfl
def kPut1 (i : Nat) (k : E) (δ : Env') : DV → G → Res Fl := fun y g => bR (ownG δ[i]? g) (kPut2 i k δ y)
@[simp ↓] theorem kPut1_a (i : Nat) (k : E) (δ : Env') (y : DV) (g : G) : kPut1 i k δ y g = bR (ownG δ[i]? g) (kPut2 i k δ y) := rfl
@[simp ↓] theorem evS_put (i : Nat) (k v : E) (δ : Env') (g : G) : evS (.put i k v) [] δ g = bR (ev false v δ g) (kPut1 i k δ) := by
  simp only [evS, free_nil]
  rfl
def kAug2 (i : Nat) (δ : Env') (a : Int) : DV → G → Res Fl := fun y => bnd (intO y) fun b => match b with
  | some b => rt (.nx (δ.set i (some (.val (.int (a + b))))))
  | none => no
omit [Fs] in
@[simp ↓] theorem kAug2_d (i : Nat) (δ : Env') (a b : Int) (g : G) : kAug2 i δ a (.d (.int b)) g = .ok (.nx (δ.set i (some (.val (.int (a + b)))))) g := rfl
def kIf (a b : Ss) (L : List Nat) (δ : Env') : Bool → G → Res Fl := fun k => match k with
  | true => evSs a L δ
  | false => evSs b L δ
@[simp ↓] theorem kIf_t (a b : Ss) (L : List Nat) (δ : Env') (g : G) : kIf a b L δ true g = evSs a L δ g := rfl
@[simp ↓] theorem kIf_f (a b : Ss) (L : List Nat) (δ : Env') (g : G) : kIf a b L δ false g = evSs b L δ g := rfl
@[simp ↓] theorem evS_ife (c : E) (a b : Ss) (L : List Nat) (δ : Env') (g : G) : evS (.ife c a b) L δ g = bR (bR (ev true c δ g) kTst) (kIf a b L δ) := rfl
def kBody (b : Ss) : Env' → G → Res Fl := fun δ => evSs b [] δ
@[simp ↓] theorem kBody_a (b : Ss) (δ : Env') (g : G) : kBody b δ g = evSs b [] δ g := rfl
def fLoop (t : Tg) (b : Ss) (d : PyData) (δ : Env') : M Fl := bnd (ofO (asgT t d δ)) (kBody b)
@[simp ↓] theorem fLoop_a (t : Tg) (b : Ss) (d : PyData) (δ : Env') (g : G) : fLoop t b d δ g = bR (ofO (asgT t d δ) g) (kBody b) := rfl
def kLoop (t : Tg) (b : Ss) (δ : Env') : List PyData → G → Res Fl := fun ds => turns (fLoop t b) ds δ
@[simp ↓] theorem kLoop_a (t : Tg) (b : Ss) (δ : Env') (ds : List PyData) (g : G) : kLoop t b δ ds g = turns (fLoop t b) ds δ g := rfl
@[simp ↓] theorem evS_loop (t : Tg) (it : E) (b : Ss) (δ : Env') (g : G) : evS (.loop t it b) [] δ g = bR (bR (ev false it δ g) kItm) (kLoop t b δ) := by
  simp only [evS, free_nil]
  rfl
def kRaise2 (c : Nat) (fn : List Str) : List PyData → G → Res Fl := fun ds g => .exc c (fn.zip ds) g
omit [Fs] in
@[simp ↓] theorem kRaise2_a (c : Nat) (fn : List Str) (ds : List PyData) (g : G) : kRaise2 c fn ds g = .exc c (fn.zip ds) g := rfl
def kRaise (c : Nat) (fn : List Str) : List DV → G → Res Fl := fun xs g => bR (datas xs g) (kRaise2 c fn)
omit [Fs] in
@[simp ↓] theorem kRaise_a (c : Nat) (fn : List Str) (xs : List DV) (g : G) : kRaise c fn xs g = bR (datas xs g) (kRaise2 c fn) := rfl
@[simp ↓] theorem evS_raise (c : Nat) (fn : List Str) (es : Es) (L : List Nat) (δ : Env') (g : G) : evS (.raise c fn es) L δ g = bR (evs false es δ g) (kRaise c fn) := rfl
def kTry (δ : Env') (i : Nat) (h : Hd) : List (Str × PyData) → M Fl := fun fs => evH fs δ i h
@[simp ↓] theorem kTry_ret (δ : Env') (i : Nat) (x : XV) (fs : List (Str × PyData)) (g : G) : kTry δ i (.ret x) fs g = bR (ofO (evX fs x) g) fun y => rt (.rt (.d y)) := rfl
@[simp] theorem evS_try {i : Nat} {δ : Env'} (h0 : i < δ.length) (s : S) (c : Nat) (h : Hd) (g : G) : evS (.try_ s c i h) [] δ g = tryR c (kTry δ i h) (evS s [] δ g) := by
  simp only [evS, free_nil, decide_eq_true h0]
  rfl
omit [Fs] in
@[simp ↓] theorem tryR_ok (c : Nat) (f : List (Str × PyData) → M Fl) (x : Fl) (g : G) : tryR c f (.ok x g) = .ok x g := rfl
omit [Fs] in
@[simp] theorem tryR_exc (c : Nat) (f : List (Str × PyData) → M Fl) (fs : List (Str × PyData)) (g : G) : tryR c f (.exc c fs g) = f fs g := by
  simp only [tryR, decide_true]
def kPen1 (δ : Env') : DV → G → Res Fl := fun y => bnd (intO y) fun o => match o with
  | some n => bnd penOf fun p => bnd (setG { p with seat := n }) fun _ => rt (.nx δ)
  | none => no
omit [Fs] in
@[simp ↓] theorem kPen1_d (δ : Env') (n : Int) (p : Pen) : kPen1 δ (.d (.int n)) (some p) = .ok (.nx δ) (some ⟨p.cells, n, p.left⟩) := rfl
def kPen2 (δ : Env') : DV → G → Res Fl := fun y => bnd (intO y) fun o => match o with
  | some n => bnd penOf fun p => bnd (setG { p with left := n }) fun _ => rt (.nx δ)
  | none => no
omit [Fs] in
@[simp ↓] theorem kPen2_d (δ : Env') (n : Int) (p : Pen) : kPen2 δ (.d (.int n)) (some p) = .ok (.nx δ) (some ⟨p.cells, p.seat, n⟩) := rfl
def kPen01 (e : E) (δ : Env') : DV → G → Res Fl := fun x => match x with
  | .pen => fun g => bR (ev false e δ g) (kPen1 δ)
  | _ => no
@[simp ↓] theorem kPen01_p (e : E) (δ : Env') (g : G) : kPen01 e δ .pen g = bR (ev false e δ g) (kPen1 δ) := rfl
def kPen02 (e : E) (δ : Env') : DV → G → Res Fl := fun x => match x with
  | .pen => fun g => bR (ev false e δ g) (kPen2 δ)
  | _ => no
@[simp ↓] theorem kPen02_p (e : E) (δ : Env') (g : G) : kPen02 e δ .pen g = bR (ev false e δ g) (kPen2 δ) := rfl
@[simp ↓] theorem evS_pen1 (i : Nat) (e : E) (L : List Nat) (δ : Env') (g : G) : evS (.pen1 i e) L δ g = bR (slotG false δ[i]? g) (kPen01 e δ) := by
  show bR _ _ = bR _ _
  congr 1
@[simp ↓] theorem evS_pen2 (i : Nat) (e : E) (L : List Nat) (δ : Env') (g : G) : evS (.pen2 i e) L δ g = bR (slotG false δ[i]? g) (kPen02 e δ) := by
  show bR _ _ = bR _ _
  congr 1
theorem run_app {d : Def} {xs : List DV} (h : xs.length = d.np) (g : G) : runD d xs g = bR (evSs d.body [] (startD d.ns xs) g) endD := by
  unfold runD
  rw [decide_eq_true h]
  rfl
end
end Ld
/-! text LpC -/
set_option Elab.async false
set_option linter.all false
set_option maxRecDepth 100000
set_option maxHeartbeats 4000000
namespace Ld
open PySem PySem.Spec L2
open PyProof.Rows hiding St

/-! ### data without truth values and dicts -/
mutual
def noB : PyData → Bool
  | .none => true
  | .int _ => true
  | .str _ => true
  | .tuple xs => noBs xs
  | .list xs => noBs xs
  | _ => false
def noBs : List PyData → Bool
  | [] => true
  | a :: r => noB a && noBs r
end
mutual
theorem eqv_beq : ∀ a b : PyData, noB a = true → noB b = true → PyData.eqv a b = beqD a b
  | .none, b, _, hb => by cases b <;> simp [noB] at hb <;> simp [PyData.eqv, beqD]
  | .int i, b, _, hb => by
    cases b <;> simp [noB] at hb <;> simp [PyData.eqv, beqD]
    rfl
  | .str x, b, _, hb => by
    cases b <;> simp [noB] at hb <;> simp [PyData.eqv, beqD]
    rename_i y
    by_cases h : x = y
    · subst h; simp
    · simp [h]
  | .bool _, b, ha, _ => by simp [noB] at ha
  | .dict _, b, ha, _ => by simp [noB] at ha
  | .tuple xs, b, ha, hb => by
    cases b <;> simp [noB] at hb <;> simp [PyData.eqv, beqD]
    exact eqvs_beqs xs _ (by simpa [noB] using ha) hb
  | .list xs, b, ha, hb => by
    cases b <;> simp [noB] at hb <;> simp [PyData.eqv, beqD]
    exact eqvs_beqs xs _ (by simpa [noB] using ha) hb
theorem eqvs_beqs : ∀ a b : List PyData, noBs a = true → noBs b = true → PyData.eqvAll a b = beqDs a b
  | [], b, _, _ => by cases b <;> simp [PyData.eqvAll, beqDs]
  | x :: r, b, ha, hb => by
    cases b with
    | nil => simp [PyData.eqvAll, beqDs]
    | cons y t =>
      simp [noBs] at ha hb
      simp [PyData.eqvAll, beqDs, eqv_beq x y ha.1 hb.1, eqvs_beqs r t ha.2 hb.2]
end
mutual
theorem eqv_self : ∀ a : PyData, a.plain = true → PyData.eqv a a = true
  | .none, _ => by simp [PyData.eqv]
  | .bool b, _ => by simp [PyData.eqv]
  | .int i, _ => by simp [PyData.eqv]
  | .str x, _ => by simp [PyData.eqv]
  | .tuple xs, h => by simp only [PyData.eqv]; exact eqvs_self xs (by simpa using h)
  | .list xs, h => by simp only [PyData.eqv]; exact eqvs_self xs (by simpa using h)
  | .dict xs, h => by simp [PyData.plain] at h
theorem eqvs_self : ∀ a : List PyData, PyData.plainAll a = true → PyData.eqvAll a a = true
  | [], _ => by simp [PyData.eqvAll]
  | x :: r, h => by
    simp [PyData.plainAll] at h
    simp [PyData.eqvAll, eqv_self x h.1, eqvs_self r h.2]
end
mutual
theorem noB_plain : ∀ a : PyData, noB a = true → a.plain = true
  | .none, _ => by simp [PyData.plain]
  | .int _, _ => by simp
  | .str _, _ => by simp [PyData.plain]
  | .bool _, h => by simp [noB] at h
  | .dict _, h => by simp [noB] at h
  | .tuple xs, h => by simp; exact noBs_plain xs (by simpa [noB] using h)
  | .list xs, h => by simp; exact noBs_plain xs (by simpa [noB] using h)
theorem noBs_plain : ∀ a : List PyData, noBs a = true → PyData.plainAll a = true
  | [], _ => by simp [PyData.plainAll]
  | x :: r, h => by
    simp [noBs] at h
    simp [PyData.plainAll, noB_plain x h.1, noBs_plain r h.2]
end
theorem noBs_iff : ∀ {l : List PyData}, noBs l = true ↔ ∀ x ∈ l, noB x = true
  | [] => by simp [noBs]
  | a :: l => by simp [noBs, noBs_iff (l := l)]
theorem plainAll_iff : ∀ {l : List PyData}, PyData.plainAll l = true ↔ ∀ x ∈ l, x.plain = true
  | [] => by simp [PyData.plainAll]
  | a :: l => by simp [PyData.plainAll, plainAll_iff (l := l)]
theorem noBs_ints : ∀ l : List Int, noBs (l.map .int) = true
  | [] => rfl
  | _ :: l => by simp [noBs, noB, noBs_ints l]
theorem any_congr_mem {α : Type} {p q : α → Bool} : ∀ {l : List α}, (∀ x ∈ l, p x = q x) → l.any p = l.any q
  | [], _ => rfl
  | a :: l, h => by rw [List.any_cons, List.any_cons, h a (.head _), any_congr_mem fun x hx => h x (.tail _ hx)]
theorem all_congr_mem {α : Type} {p q : α → Bool} : ∀ {l : List α}, (∀ x ∈ l, p x = q x) → l.all p = l.all q
  | [], _ => rfl
  | a :: l, h => by rw [List.all_cons, List.all_cons, h a (.head _), all_congr_mem fun x hx => h x (.tail _ hx)]
/-- looked for in a tuple, a list -/
theorem inD_tuple {a : PyData} {xs : List PyData} (ha : noB a = true) (hd : a.depth ≤ 60) (hx : ∀ x ∈ xs, noB x = true) : inD a (.tuple xs) = some (xs.any fun y => beqD y a) := by
  have e : (PyData.plainAll xs && (a.plain && decide (a.depth ≤ 60))) = true := by
    rw [noBs_plain xs (noBs_iff.mpr hx), noB_plain a ha, decide_eq_true hd]; rfl
  simp only [inD, e]
  congr 1
  exact any_congr_mem fun x h => eqv_beq x a (hx x h) ha
theorem inD_list {a : PyData} {xs : List PyData} (ha : noB a = true) (hd : a.depth ≤ 60) (hx : ∀ x ∈ xs, noB x = true) : inD a (.list xs) = some (xs.any fun y => beqD y a) := by
  have e : (PyData.plainAll xs && (a.plain && decide (a.depth ≤ 60))) = true := by
    rw [noBs_plain xs (noBs_iff.mpr hx), noB_plain a ha, decide_eq_true hd]; rfl
  simp only [inD, e]
  congr 1
  exact any_congr_mem fun x h => eqv_beq x a (hx x h) ha
/-! ### tables whose keys are tuples -/
def TupKey (d : PyData) : Prop := isTupD d = true ∧ keyable d = true
theorem kOk_tup {kvs : List (PyData × PyData)} {k : PyData} (hk : TupKey k) (h : ∀ p ∈ kvs, isTupD p.1 = true) : kOk kvs k = true := by
  obtain ⟨h1, h2⟩ := hk
  cases k <;> try (cases h1; done)
  show (keyable _ && kvs.all fun p => isTupD p.1) = true
  rw [h2, Bool.true_and, List.all_eq_true]
  exact h
theorem dput_keys {kvs : List (PyData × PyData)} {k v : PyData} {p : PyData → Prop} (hk : p k) (h : ∀ q ∈ kvs, p q.1) : ∀ q ∈ dput kvs k v, p q.1 := by
  intro q hq
  unfold dput at hq
  cases e : dhas kvs k with
  | true =>
    rw [e] at hq
    obtain ⟨r, hr, e2⟩ := List.mem_map.mp hq
    split at e2 <;> (subst e2; exact h r hr)
  | false =>
    rw [e] at hq
    rcases List.mem_append.mp hq with hq | hq
    · exact h q hq
    · rw [List.mem_singleton] at hq
      subst hq
      exact hk
theorem dput_len (kvs : List (PyData × PyData)) (k v : PyData) : (dput kvs k v).length ≤ kvs.length + 1 := by
  unfold dput
  cases dhas kvs k with
  | true => simp
  | false => simp
theorem beqD_symm (a b : PyData) : beqD a b = beqD b a := by
  rw [Bool.eq_iff_iff, beqD_iff, beqD_iff]
  exact eq_comm
theorem dhas_map {kvs : List (PyData × PyData)} {f : PyData × PyData → PyData × PyData} (hf : ∀ p, (f p).1 = p.1) (x : PyData) : dhas (kvs.map f) x = dhas kvs x := by
  unfold dhas
  rw [List.any_map]
  exact any_congr_mem fun p _ => by show beqD (f p).1 x = _; rw [hf]
theorem dhas_dput (kvs : List (PyData × PyData)) (k v x : PyData) : dhas (dput kvs k v) x = (beqD k x || dhas kvs x) := by
  unfold dput
  cases e : dhas kvs k with
  | true =>
    show dhas (kvs.map _) x = _
    rw [dhas_map]
    · cases q : beqD k x with
      | false => rfl
      | true =>
        have := beqD_iff.mp q
        subst this
        rw [e]
        rfl
    · intro p
      split <;> rfl
  | false =>
    show dhas (kvs ++ [(k, v)]) x = _
    unfold dhas
    rw [List.any_append]
    simp [Bool.or_comm]
/-- {d: True for d in ds}, from a table on -/
def tabFrom (acc : List (PyData × PyData)) (ds : List PyData) : List (PyData × PyData) := ds.foldl (fun a d => dput a d (.bool true)) acc
theorem tabFrom_has : ∀ (ds : List PyData) (acc : List (PyData × PyData)) (x : PyData), dhas (tabFrom acc ds) x = (dhas acc x || ds.any fun d => beqD d x)
  | [], acc, x => by simp [tabFrom]
  | d :: ds, acc, x => by
    have e : tabFrom acc (d :: ds) = tabFrom (dput acc d (.bool true)) ds := rfl
    rw [e, tabFrom_has ds, dhas_dput, List.any_cons]
    cases beqD d x <;> cases dhas acc x <;> simp
theorem loopD_tab {f : PyData → M (Option (PyData × PyData))} {g : G} : ∀ {ds : List PyData} {acc : List (PyData × PyData)}, (∀ d ∈ ds, f d g = .ok (some (d, .bool true)) g ∧ TupKey d) → (∀ p ∈ acc, isTupD p.1 = true) → acc.length + ds.length ≤ maxLen → loopD f ds acc g = .ok (tabFrom acc ds) g
  | [], acc, _, _, _ => rfl
  | d :: ds, acc, h, ha, hl => by
    obtain ⟨h1, h2⟩ := h d (.head _)
    have e : loopD f (d :: ds) acc g = bR (f d g) fun o => match o with
      | some (k, v) => (match kOk acc k && decide (acc.length < maxLen) with
        | true => loopD f ds (dput acc k v)
        | false => no)
      | none => loopD f ds acc := rfl
    rw [List.length_cons] at hl
    rw [e, h1]
    show (match kOk acc d && decide (acc.length < maxLen) with | true => loopD f ds (dput acc d (.bool true)) | false => no) g = _
    rw [kOk_tup h2 ha, decide_eq_true (by omega)]
    exact loopD_tab (fun x hx => h x (.tail _ hx)) (dput_keys (p := fun k => isTupD k = true) h2.1 ha) (by have := dput_len acc d (.bool true); omega)
theorem tabFrom_keys {p : PyData → Prop} : ∀ (ds : List PyData) (acc : List (PyData × PyData)), (∀ q ∈ acc, p q.1) → (∀ d ∈ ds, p d) → ∀ q ∈ tabFrom acc ds, p q.1
  | [], acc, h, _ => h
  | d :: ds, acc, h, hd => tabFrom_keys ds _ (dput_keys (hd d (.head _)) h) fun x hx => hd x (.tail _ hx)
theorem inD_dict {kvs : List (PyData × PyData)} {k : PyData} (hk : TupKey k) (h : ∀ p ∈ kvs, isTupD p.1 = true) : inD k (.dict kvs) = some (dhas kvs k) := by
  simp only [inD, kOk_tup hk h]
/-! ### sorted sets -/
theorem mem_insD {x y : PyData} : ∀ {l : List PyData}, y ∈ insD x l ↔ y = x ∨ y ∈ l
  | [] => by simp [insD]
  | z :: l => by
    unfold insD
    split
    · simp
    · rw [List.mem_cons, mem_insD, List.mem_cons]
      constructor
      · rintro (h | h | h) <;> simp [h]
      · rintro (h | h | h) <;> simp [h]
theorem mem_isort {y : PyData} : ∀ {l : List PyData}, y ∈ isort l ↔ y ∈ l
  | [] => Iff.rfl
  | x :: l => by
    show y ∈ insD x (isort l) ↔ _
    rw [mem_insD, mem_isort, List.mem_cons]
theorem mem_dedup {y : PyData} : ∀ {l : List PyData}, y ∈ dedup l ↔ y ∈ l
  | [] => Iff.rfl
  | x :: l => by
    unfold dedup
    cases e : (dedup l).any (beqD x) with
    | true =>
      show y ∈ dedup l ↔ _
      rw [mem_dedup, List.mem_cons]
      obtain ⟨z, hz, hq⟩ := List.any_eq_true.mp e
      have := beqD_iff.mp hq
      subst this
      exact ⟨.inr, fun h => h.elim (fun h => h ▸ mem_dedup.mp hz) id⟩
    | false =>
      show y ∈ x :: dedup l ↔ _
      rw [List.mem_cons, mem_dedup, List.mem_cons]
theorem dedup_len : ∀ l : List PyData, (dedup l).length ≤ l.length
  | [] => Nat.le_refl _
  | x :: l => by
    unfold dedup
    have := dedup_len l
    cases (dedup l).any (beqD x) with
    | true => show (dedup l).length ≤ _; rw [List.length_cons]; omega
    | false => show (x :: dedup l).length ≤ _; rw [List.length_cons, List.length_cons]; omega
theorem insD_len (x : PyData) : ∀ l : List PyData, (insD x l).length = l.length + 1
  | [] => rfl
  | y :: l => by
    unfold insD
    split
    · simp
    · rw [List.length_cons, insD_len x l, List.length_cons]
theorem isort_len : ∀ l : List PyData, (isort l).length = l.length
  | [] => rfl
  | x :: l => by
    show (insD x (isort l)).length = _
    rw [insD_len, isort_len, List.length_cons]
theorem ssetD_ok {ds : List PyData} (h1 : ∀ d ∈ ds, TupKey d) (h2 : ds.length ≤ 62) (h3 : ∀ d ∈ ds, ∀ e ∈ ds, PySem.W.alike d e = true) (h4 : ∀ d ∈ ds, d ≠ .tuple []) (h5 : ∀ d ∈ ds, d.depth ≤ 60) : ssetD ds = some (isort (dedup ds)) := by
  have e1 : (tupKeys ds && decide ((dedup ds).length ≤ 62)) = true := by
    rw [Bool.and_eq_true]
    refine ⟨List.all_eq_true.mpr fun d hd => by rw [(h1 d hd).1, (h1 d hd).2]; rfl, decide_eq_true (Nat.le_trans (dedup_len ds) h2)⟩
  simp only [ssetD, e1]
  have e2 : (allAlike (dedup ds) && (sortable (dedup ds) && (dedup ds).all fun d => decide (d.depth ≤ 60))) = true := by
    rw [Bool.and_eq_true, Bool.and_eq_true]
    refine ⟨List.all_eq_true.mpr fun d hd => List.all_eq_true.mpr fun e he => h3 d (mem_dedup.mp hd) e (mem_dedup.mp he), ?_, List.all_eq_true.mpr fun d hd => decide_eq_true (h5 d (mem_dedup.mp hd))⟩
    unfold sortable
    rw [Bool.or_eq_true]
    refine .inl (List.all_eq_true.mpr fun d hd => ?_)
    have ht := (h1 d (mem_dedup.mp hd)).1
    have hn := h4 d (mem_dedup.mp hd)
    cases d <;> try (cases ht; done)
    rename_i xs
    cases xs with
    | nil => exact absurd rfl hn
    | cons => rfl
  simp only [sortD, e2]
/-! ### loops turn by turn -/
def kTurn (f : PyData → Env' → M Fl) (r : List PyData) : Fl → G → Res Fl := fun fl => match fl with
  | .nx δ' => turns f r δ'
  | .ct δ' => turns f r δ'
  | .bk δ' => rt (.nx δ')
  | .rt x => rt (.rt x)
theorem turnsN (f : PyData → Env' → M Fl) (δ : Env') (g : G) : turns f [] δ g = .ok (.nx δ) g := rfl
theorem turnsC (f : PyData → Env' → M Fl) (d : PyData) (r : List PyData) (δ : Env') (g : G) : turns f (d :: r) δ g = bR (f d δ g) (kTurn f r) := rfl
@[simp ↓] theorem kTurn_nx (f : PyData → Env' → M Fl) (r : List PyData) (δ : Env') (g : G) : kTurn f r (.nx δ) g = turns f r δ g := rfl
@[simp ↓] theorem kTurn_rt (f : PyData → Env' → M Fl) (r : List PyData) (x : DV) (g : G) : kTurn f r (.rt x) g = .ok (.rt x) g := rfl
@[simp ↓] theorem kTurn_ct (f : PyData → Env' → M Fl) (r : List PyData) (δ : Env') (g : G) : kTurn f r (.ct δ) g = turns f r δ g := rfl
@[simp ↓] theorem kTurn_bk (f : PyData → Env' → M Fl) (r : List PyData) (δ : Env') (g : G) : kTurn f r (.bk δ) g = .ok (.nx δ) g := rfl
/-- a loop that goes to its end, without a pen -/
theorem turns_inv {f : PyData → Env' → M Fl} {I : Env' → Prop} {g : G} : ∀ {ds : List PyData} {δ : Env'}, I δ → (∀ d ∈ ds, ∀ δ, I δ → ∃ δ', I δ' ∧ f d δ g = .ok (.nx δ') g) → ∃ δ', I δ' ∧ turns f ds δ g = .ok (.nx δ') g
  | [], δ, h, _ => ⟨δ, h, rfl⟩
  | d :: ds, δ, h, hf => by
    obtain ⟨δ', h', e⟩ := hf d (.head _) δ h
    obtain ⟨δ2, h2, e2⟩ := turns_inv h' fun x hx => hf x (.tail _ hx)
    exact ⟨δ2, h2, by rw [turnsC, e]; exact e2⟩
/-- a loop that fills a list -/
theorem turns_ext {f : PyData → Env' → M Fl} {S : List PyData → Env' → Prop} {h : PyData → List PyData} {c N : Nat} {g : G} (hc : ∀ d, (h d).length ≤ c) : ∀ {ds acc : List PyData} {δ : Env'}, acc.length + ds.length * c ≤ N → S acc δ →
    (∀ d ∈ ds, ∀ acc δ, S acc δ → acc.length + c ≤ N → ∃ δ', S (acc ++ h d) δ' ∧ f d δ g = .ok (.nx δ') g) → ∃ δ', S (acc ++ ds.flatMap h) δ' ∧ turns f ds δ g = .ok (.nx δ') g
  | [], acc, δ, _, hs, _ => ⟨δ, by simpa using hs, rfl⟩
  | d :: ds, acc, δ, hl, hs, hf => by
    rw [List.length_cons, Nat.succ_mul] at hl
    obtain ⟨δ', h', e⟩ := hf d (.head _) acc δ hs (by omega)
    have := hc d
    obtain ⟨δ2, h2, e2⟩ := turns_ext hc (acc := acc ++ h d) (by rw [List.length_append]; omega) h' fun x hx => hf x (.tail _ hx)
    refine ⟨δ2, ?_, by rw [turnsC, e]; exact e2⟩
    rw [List.flatMap_cons, ← List.append_assoc]
    exact h2
theorem appD_ok {xs ys : List PyData} (h : xs.length + ys.length ≤ 10000000) : appD xs ys = some (.list (xs ++ ys)) := by
  have e : decide (xs.length + ys.length ≤ maxLen) = true := decide_eq_true h
  simp only [appD, e]
/-! ### ranges of ints, order -/
def rangeI (lo : Int) : Nat → List Int
  | 0 => []
  | n + 1 => lo :: rangeI (lo + 1) n
theorem rangeD_map : ∀ (n : Nat) (lo : Int), rangeD lo n = (rangeI lo n).map .int
  | 0, _ => rfl
  | n + 1, lo => by show _ :: _ = _ :: _; rw [rangeD_map n]
theorem mem_rangeI : ∀ {n : Nat} {lo x : Int}, x ∈ rangeI lo n ↔ lo ≤ x ∧ x < lo + n
  | 0, lo, x => by simp [rangeI]
  | n + 1, lo, x => by
    simp only [rangeI, List.mem_cons, mem_rangeI (n := n)]
    omega
theorem rangeI_len : ∀ (n : Nat) (lo : Int), (rangeI lo n).length = n
  | 0, _ => rfl
  | n + 1, lo => by simp [rangeI, rangeI_len n]
theorem rangeI_lt : ∀ (n : Nat) (lo : Int), (rangeI lo n).Pairwise (· < ·)
  | 0, _ => .nil
  | n + 1, lo => .cons (fun x hx => by have := mem_rangeI.mp hx; omega) (rangeI_lt n _)
theorem ltT_ne {x y : Int} (h : x ≠ y) (xs ys : List PyData) : PySem.W.dataLt (.tuple (.int x :: xs)) (.tuple (.int y :: ys)) = decide (x < y) := by
  rw [PySem.W.dataLt_tuple, PySem.W.dataLt_all_no (by simp [PySem.W.alike]) (by simp [PyData.eqv, h]), PySem.W.dataLt_int]
theorem ltT_eq (x : PyData) (h : PySem.W.alike x x = true) (xs ys : List PyData) : PySem.W.dataLt (.tuple (x :: xs)) (.tuple (x :: ys)) = PySem.W.dataLt (.tuple xs) (.tuple ys) := by
  rw [PySem.W.dataLt_tuple, PySem.W.dataLt_all_yes h (PySem.W.eqv_refl_alike x h), ← PySem.W.dataLt_tuple]
theorem ltT_sub {x y : PyData} (h : PySem.W.alike x y = true) (e : PyData.eqv x y = false) (xs ys : List PyData) : PySem.W.dataLt (.tuple (x :: xs)) (.tuple (y :: ys)) = PySem.W.dataLt x y := by
  rw [PySem.W.dataLt_tuple, PySem.W.dataLt_all_no h e]
theorem lt_irrefl (x : PyData) : PySem.W.dataLt x x = false := by
  unfold PySem.W.dataLt
  generalize PySem.W.keyToks x = l
  induction l with
  | nil => rfl
  | cons a l ih =>
    have := PySem.W.lex_pre [a] l l
    rw [List.singleton_append] at this
    rw [this, ih]
/-! slices -/
theorem slc_to {xs : List PyData} {n : Nat} (h : n ≤ xs.length) : slcD (.tuple xs) none (some n) = some (.tuple (xs.take n)) := by
  show some (PyData.tuple (cutD _ _ _)) = _
  unfold cutD
  have h0 : HT.sIx xs.length 0 none = 0 := rfl
  have h1 : HT.sIx xs.length xs.length (some (n : Int)) = n := by rw [HT.sIx_nat]; omega
  rw [h0, h1, List.drop_zero, Nat.sub_zero]
theorem slc_from {xs : List PyData} {n : Nat} (h : n ≤ xs.length) : slcD (.tuple xs) (some n) none = some (.tuple (xs.drop n)) := by
  show some (PyData.tuple (cutD _ _ _)) = _
  unfold cutD
  have h0 : HT.sIx xs.length 0 (some (n : Int)) = n := by rw [HT.sIx_nat]; omega
  have h1 : HT.sIx xs.length xs.length none = xs.length := rfl
  rw [h0, h1, List.take_of_length_le (by simp)]
theorem depthAll_le {n : Nat} : ∀ {l : List PyData}, (∀ x ∈ l, x.depth ≤ n) → PyData.depthAll l ≤ n + 1
  | [], _ => by simp [PyData.depthAll]
  | a :: l, h => by
    have h1 := h a (.head _)
    have h2 := depthAll_le fun x hx => h x (.tail _ hx)
    simp [PyData.depthAll]
    omega
theorem eqD_self {a : PyData} (h : noB a = true) (hd : a.depth ≤ 60) : eqD a a = some true := by
  rw [eqD_of (noB_plain a h) (noB_plain a h) (.inl hd), eqv_self a (noB_plain a h)]
theorem ints_keys : ∀ l : List Int, toKeys (l.map .int) = some (l.map .num)
  | [] => rfl
  | i :: l => by simp [toKeys, toKey, ints_keys l]
end Ld
/-! text k01P -/
set_option Elab.async false
set_option linter.all false
set_option maxRecDepth 100000
set_option maxHeartbeats 4000000
namespace Lk01
open PySem PySem.Spec L2 Ld
open PyProof.Rows hiding St

/-! ### what the defs compute -/
def whole (v : PyData) (lo hi : Int) : Bool := match v with
  | .int i => decide (lo ≤ i) && decide (i ≤ hi)
  | _ => false
def isParts (v : PyData) (n : Int) : Bool := match v with
  | .tuple xs => decide ((xs.length : Int) = n)
  | _ => false
def kD (ks : List Int) : PyData := .tuple (ks.map .int)
def kAt (ks : List Int) (i : Int) : Int := ks.getD i.toNat 0
def isFact (ks : List Int) (v : PyData) : Bool := match v with
  | .tuple [.int i, .tuple ts] => whole (.int i) 0 (ks.length - 1) && (decide ((ts.length : Int) = kAt ks i) && ts.all fun t => whole t 0 29)
  | _ => false
section
variable {k : Nat} {g : G}
theorem lk {x : Str} {d : Def} (h : defs.lookup x = some d) (hk : 1 ≤ k) : ∃ m, k = m + 1 ∧ ∀ xs g, xs.length = d.np → Phi defs k x xs g = bR (@evSs ⟨Phi defs m⟩ d.body [] (startD d.ns xs) g) endD := by
  obtain ⟨m, rfl⟩ : ∃ m, k = m + 1 := ⟨k - 1, by omega⟩
  refine ⟨m, rfl, fun xs g hl => ?_⟩
  rw [phi h]
  exact @run_app ⟨Phi defs m⟩ d xs hl g
theorem s_is_integer (hk : 1 ≤ k) (v : PyData) : Phi defs k "is_integer" [.d v] g = .ok (.d (.bool (match v with | .int _ => true | _ => false))) g := by
  obtain ⟨m, rfl, e⟩ := lk (k := k) (x := "is_integer") (d := d_is_integer) (by rfl) hk
  rw [e _ _ rfl]
  cases v <;> simp [d_is_integer, startD, slotOf, isiD]
theorem s_is_index (hk : 2 ≤ k) (v : PyData) (lo hi : Int) : Phi defs k "is_index" [.d v, .d (.int lo), .d (.int hi)] g = .ok (.d (.bool (whole v lo hi))) g := by
  obtain ⟨m, rfl, e⟩ := lk (k := k) (x := "is_index") (d := d_is_index) (by rfl) (by omega)
  rw [e _ _ rfl]
  simp [d_is_index, startD, slotOf, s_is_integer (show 1 ≤ m by omega)]
  cases v <;> simp [whole]
  rename_i i
  by_cases h : lo ≤ i <;> simp [h]
theorem s_is_parts (hk : 1 ≤ k) (v : PyData) (n : Int) : Phi defs k "is_parts" [.d v, .d (.int n)] g = .ok (.d (.bool (isParts v n))) g := by
  obtain ⟨m, rfl, e⟩ := lk (k := k) (x := "is_parts") (d := d_is_parts) (by rfl) (by omega)
  rw [e _ _ rfl]
  cases v <;> simp [d_is_parts, startD, slotOf, isiD, isParts]
theorem s_whole (hk : 1 ≤ k) (v : PyData) (lo hi : Int) : Phi defs k "_law_whole" [.d v, .d (.int lo), .d (.int hi)] g = .ok (.d (.bool (whole v lo hi))) g := by
  obtain ⟨m, rfl, e⟩ := lk (k := k) (x := "_law_whole") (d := d__law_whole) (by rfl) (by omega)
  rw [e _ _ rfl]
  cases v <;> simp [d__law_whole, startD, slotOf, isiD, whole]
  rename_i i
  by_cases h : lo ≤ i <;> simp [h]
theorem sub_kinds {ks : List Int} {i : Int} (h1 : 0 ≤ i) (h2 : i ≤ ks.length - 1) : subD (kD ks) (.int i) = some (.int (kAt ks i)) := by
  obtain ⟨j, rfl⟩ := Int.eq_ofNat_of_zero_le h1
  have hj : j < (ks.map PyData.int).length := by rw [List.length_map]; omega
  unfold kD
  rw [subD_tuple hj]
  simp at hj
  simp [kAt, List.getD, hj]
theorem all_bools {α : Type} (p : α → Bool) : ∀ l : List α, boolsD (l.map fun x => .bool (p x)) = some (l.map p)
  | [] => rfl
  | a :: l => by simp [boolsD, all_bools p l]
theorem biD_all {α : Type} (p : α → Bool) (l : List α) : biD .all [.list (l.map fun x => .bool (p x))] = some (.bool (l.all p)) := by
  show (match boolsD _ with | some bs => some (PyData.bool (bs.all id)) | none => none) = _
  rw [all_bools]
  simp [List.all_map]
theorem s_is_fact (hk : 3 ≤ k) (ks : List Int) (v : PyData) : Phi defs k "is_fact" [.d (kD ks), .d v] g = .ok (.d (.bool (isFact ks v))) g := by
  obtain ⟨m, rfl, e⟩ := lk (k := k) (x := "is_fact") (d := d_is_fact) (by rfl) (by omega)
  rw [e _ _ rfl]
  simp [d_is_fact, startD, slotOf, s_is_parts (show 1 ≤ m by omega)]
  cases h : isParts v 2 with
  | false =>
    simp
    have : isFact ks v = false := by
      unfold isFact
      split
      · simp [isParts] at h
      · rfl
    rw [this]
  | true =>
    obtain ⟨a, b, rfl⟩ : ∃ a b, v = .tuple [a, b] := by
      cases v <;> try (simp [isParts] at h; done)
      rename_i xs
      simp [isParts] at h
      match xs, h with
      | [a, b], _ => exact ⟨a, b, rfl⟩
    simp [s_is_index (show 2 ≤ m by omega), s_is_parts (show 1 ≤ m by omega), kD]
    cases hw : whole a 0 (ks.length - 1) with
    | false =>
      simp
      unfold isFact
      split
      · rename_i i ts e2
        cases e2
        rw [hw]
        rfl
      · rfl
    | true =>
      obtain ⟨i, rfl⟩ : ∃ i, a = .int i := by
        cases a <;> first | exact ⟨_, rfl⟩ | (simp [whole] at hw; done)
      have hi : 0 ≤ i ∧ i ≤ ks.length - 1 := by simpa [whole] using hw
      have hs := sub_kinds hi.1 hi.2
      unfold kD at hs
      simp [hs, s_is_parts (show 1 ≤ m by omega)]
      by_cases hb : ∃ ts, b = .tuple ts
      rotate_left
      · have h1 : isParts b (kAt ks i) = false := by
          cases b <;> first | rfl | exact absurd ⟨_, rfl⟩ hb
        have h2 : isFact ks (.tuple [.int i, b]) = false := by
          cases b <;> first | rfl | exact absurd ⟨_, rfl⟩ hb
        rw [h1, h2]
        simp
      obtain ⟨ts, rfl⟩ := hb
      have hp : isFact ks (.tuple [.int i, .tuple ts]) = (decide ((ts.length : Int) = kAt ks i) && ts.all fun t => whole t 0 29) := by
        show (whole (.int i) 0 (ks.length - 1) && _) = _
        rw [hw, Bool.true_and]
      rw [hp]
      have hpl : isParts (.tuple ts) (kAt ks i) = decide ((ts.length : Int) = kAt ks i) := rfl
      rw [hpl]
      cases decide ((ts.length : Int) = kAt ks i) with
      | false => simp
      | true =>
        simp
        rw [loopC_map (h := fun t => .bool (whole t 0 29)) (fun d hd => by simp [s_is_index (show 2 ≤ m by omega)])]
        simp [biD_all]
theorem fm_empty {α : Type} (p : α → Bool) : ∀ l : List α, (l.filterMap fun x => if p x = true then none else some (PyData.int 1)).isEmpty = l.all p
  | [] => rfl
  | a :: l => by
    rw [List.filterMap_cons, List.all_cons]
    cases h : p a with
    | true => simpa using fm_empty p l
    | false => simp
theorem fm_plain {α : Type} (p : α → Bool) : ∀ l : List α, PyData.plainAll (l.filterMap fun x => if p x = true then none else some (PyData.int 1)) = true
  | [] => rfl
  | a :: l => by
    rw [List.filterMap_cons]
    cases h : p a with
    | true => simpa using fm_plain p l
    | false =>
      simp only [Bool.false_eq_true, if_false]
      rw [PyData.plainAll, fm_plain p l]
      simp
theorem s_is_right (hk : 3 ≤ k) (ks : List Int) (v : PyData) : Phi defs k "_law_is_right" [.d (kD ks), .d v] g = .ok (.d (.bool (isFact ks v))) g := by
  obtain ⟨m, rfl, e⟩ := lk (k := k) (x := "_law_is_right") (d := d__law_is_right) (by rfl) (by omega)
  rw [e _ _ rfl]
  by_cases hv : ∃ xs, v = .tuple xs
  rotate_left
  · have h1 : isiD .tuple v = false := by cases v <;> first | rfl | exact absurd ⟨_, rfl⟩ hv
    have h2 : isFact ks v = false := by cases v <;> first | rfl | exact absurd ⟨_, rfl⟩ hv
    simp [d__law_is_right, startD, slotOf, h1, h2]
  obtain ⟨xs, rfl⟩ := hv
  simp [d__law_is_right, startD, slotOf]
  by_cases hl : xs.length = 2
  rotate_left
  · have h2 : isFact ks (.tuple xs) = false := by
      unfold isFact
      split
      · rename_i e2
        cases e2
        simp at hl
      · rfl
    have h3 : ¬ (xs.length : Int) = 2 := by omega
    simp [h2, h3]
  match xs, hl with
  | [a, b], _ =>
    simp [s_whole (show 1 ≤ m by omega), kD]
    cases hw : whole a 0 (ks.length - 1) with
    | false =>
      simp
      unfold isFact
      split
      · rename_i i ts e2
        cases e2
        rw [hw]
        rfl
      · rfl
    | true =>
      obtain ⟨i, rfl⟩ : ∃ i, a = .int i := by
        cases a <;> first | exact ⟨_, rfl⟩ | (simp [whole] at hw; done)
      have hi : 0 ≤ i ∧ i ≤ ks.length - 1 := by simpa [whole] using hw
      have hs := sub_kinds hi.1 hi.2
      unfold kD at hs
      by_cases hb : ∃ ts, b = .tuple ts
      rotate_left
      · have h1 : isiD .tuple b = false := by cases b <;> first | rfl | exact absurd ⟨_, rfl⟩ hb
        have h2 : isFact ks (.tuple [.int i, b]) = false := by
          cases b <;> first | rfl | exact absurd ⟨_, rfl⟩ hb
        simp [h1, h2]
      obtain ⟨ts, rfl⟩ := hb
      have hp : isFact ks (.tuple [.int i, .tuple ts]) = (decide ((ts.length : Int) = kAt ks i) && ts.all fun t => whole t 0 29) := by
        show (whole (.int i) 0 (ks.length - 1) && _) = _
        rw [hw, Bool.true_and]
      rw [hp]
      simp [hs]
      by_cases h3 : (ts.length : Int) = kAt ks i
      rotate_left
      · simp [h3]
      simp [h3]
      rw [loopC_pure (h := fun t => if whole t 0 29 = true then none else some (.int 1)) (fun d hd => by
        simp [s_whole (show 1 ≤ m by omega)]
        cases whole d 0 29 <;> simp)]
      simp
      rw [eqD_nilL (fm_plain (fun t => whole t 0 29) ts), fm_empty (fun t => whole t 0 29) ts]
      simp
/-! ### the first part at fault -/
def bad (ks : List Int) (xs : List PyData) (i : Nat) (x : PyData) : Bool := !isFact ks x || (decide (0 < i) && !PySem.W.dataLt (xs.getD (i - 1) .none) x)
def scan (ks : List Int) (xs : List PyData) : Nat → List PyData → Option Nat
  | _, [] => none
  | i, x :: r => if bad ks xs i x = true then some i else scan ks xs (i + 1) r
def faultOf (ks : List Int) (v : PyData) (most : Int) : Option (Option Nat) := match v with
  | .tuple xs => if (xs.length : Int) > most then some none else (scan ks xs 0 xs).map some
  | _ => some none
theorem fact_int {ks : List Int} {v : PyData} (h : isFact ks v = true) : ∃ (i : Int) (ts : List Int), v = .tuple [.int i, .tuple (ts.map .int)] ∧ 0 ≤ i ∧ i ≤ ks.length - 1 ∧ (ts.length : Int) = kAt ks i ∧ ∀ t ∈ ts, 0 ≤ t ∧ t ≤ 29 := by
  unfold isFact at h
  split at h
  · rename_i i ts
    rw [Bool.and_eq_true, Bool.and_eq_true] at h
    obtain ⟨h1, h2, h3⟩ := h
    have key : ∀ l : List PyData, l.all (fun t => whole t 0 29) = true → ∃ ns : List Int, l = ns.map .int ∧ ∀ t ∈ ns, 0 ≤ t ∧ t ≤ 29 := by
      intro l
      induction l with
      | nil => exact fun _ => ⟨[], rfl, fun t ht => by cases ht⟩
      | cons a l ih =>
        intro h
        rw [List.all_cons, Bool.and_eq_true] at h
        obtain ⟨ns, e, hn⟩ := ih h.2
        have ha := h.1
        cases a <;> try (simp [whole] at ha; done)
        rename_i j
        refine ⟨j :: ns, by rw [e]; rfl, fun t ht => ?_⟩
        rcases List.mem_cons.mp ht with rfl | ht
        · simpa [whole] using ha
        · exact hn t ht
    obtain ⟨ns, e, hn⟩ := key ts h3
    subst e
    refine ⟨i, ns, rfl, ?_, ?_, by simpa using of_decide_eq_true h2, hn⟩
    · have : 0 ≤ i ∧ i ≤ ks.length - 1 := by simpa [whole] using h1
      exact this.1
    · have : 0 ≤ i ∧ i ≤ ks.length - 1 := by simpa [whole] using h1
      exact this.2
  · cases h
theorem alike_ints : ∀ a b : List Int, PySem.W.alikeAll (a.map .int) (b.map .int) = true
  | [], _ => by simp [PySem.W.alikeAll]
  | _ :: _, [] => by simp [PySem.W.alikeAll]
  | _ :: a, _ :: b => by simp [PySem.W.alikeAll, PySem.W.alike, alike_ints a b]
theorem depth_ints : ∀ a : List Int, PyData.depthAll (a.map .int) ≤ 1
  | [] => by simp [PyData.depthAll]
  | i :: a => by
    have := depth_ints a
    simp [PyData.depthAll, PyData.depth]
    omega
theorem fact_lt {ks : List Int} {a b : PyData} (ha : isFact ks a = true) (hb : isFact ks b = true) : cmpD .lt a b = some (PySem.W.dataLt a b) := by
  obtain ⟨i, ts, rfl, _⟩ := fact_int ha
  obtain ⟨j, us, rfl, _⟩ := fact_int hb
  have h1 := depth_ints ts
  have e : (PySem.W.alike (.tuple [.int i, .tuple (ts.map .int)]) (.tuple [.int j, .tuple (us.map .int)]) && (!(beqD (.tuple [.int i, .tuple (ts.map .int)]) .none) && decide ((PyData.tuple [.int i, .tuple (ts.map .int)]).depth ≤ 60))) = true := by
    simp [PySem.W.alike, PySem.W.alikeAll, alike_ints, beqD, PyData.depth, PyData.depthAll]
    omega
  show ordG _ _ _ = _
  unfold ordG
  rw [e]
theorem bad_fact {ks : List Int} {xs : List PyData} {i : Nat} {x : PyData} (h : bad ks xs i x = false) : isFact ks x = true := by
  unfold bad at h
  rw [Bool.or_eq_false_iff] at h
  simpa using h.1
theorem turns_scan {f : PyData → Env' → M Fl} {I : Env' → Prop} {R : Nat → DV} {ks : List Int} {xs : List PyData}
    (hf : ∀ (i : Nat) (x : PyData) (δ : Env'), I δ → xs[i]? = some x → (0 < i → isFact ks (xs.getD (i - 1) .none) = true) → (bad ks xs i x = true → f (.tuple [.int i, x]) δ g = .ok (.rt (R i)) g) ∧ (bad ks xs i x = false → ∃ δ', I δ' ∧ f (.tuple [.int i, x]) δ g = .ok (.nx δ') g)) :
    ∀ (rest pre : List PyData) (δ : Env'), xs = pre ++ rest → (0 < pre.length → isFact ks (xs.getD (pre.length - 1) .none) = true) → I δ →
      (∀ i, scan ks xs pre.length rest = some i → turns f (enumD pre.length rest) δ g = .ok (.rt (R i)) g) ∧ (scan ks xs pre.length rest = none → ∃ δ', I δ' ∧ turns f (enumD pre.length rest) δ g = .ok (.nx δ') g)
  | [], pre, δ, e, hp, hI => by
    refine ⟨fun i h => ?_, fun _ => ⟨δ, hI, rfl⟩⟩
    cases (show (none : Option Nat) = some i from h)
  | x :: rest, pre, δ, e, hp, hI => by
    have hx : xs[pre.length]? = some x := by rw [e]; simp
    obtain ⟨h1, h2⟩ := hf pre.length x δ hI hx hp
    have et : turns f (enumD pre.length (x :: rest)) δ g = bR (f (.tuple [.int pre.length, x]) δ g) fun fl => match fl with
      | .nx δ' => turns f (enumD (pre.length + 1) rest) δ'
      | .ct δ' => turns f (enumD (pre.length + 1) rest) δ'
      | .bk δ' => rt (.nx δ')
      | .rt x => rt (.rt x) := rfl
    cases hb : bad ks xs pre.length x with
    | true =>
      have es : scan ks xs pre.length (x :: rest) = some pre.length := by simp [scan, hb]
      rw [es, et, h1 hb]
      refine ⟨fun i h => ?_, fun h => ?_⟩
      · cases h
        rfl
      · cases h
    | false =>
      obtain ⟨δ', hI', ef⟩ := h2 hb
      have es : scan ks xs pre.length (x :: rest) = scan ks xs (pre.length + 1) rest := by simp [scan, hb]
      rw [es, et, ef]
      have hl : (pre ++ [x]).length = pre.length + 1 := by simp
      have ih := turns_scan hf rest (pre ++ [x]) δ' (by rw [e]; simp) (fun _ => by
        rw [hl, Nat.add_sub_cancel, List.getD_eq_getElem?_getD, hx]
        exact bad_fact hb) hI'
      rw [hl] at ih
      exact ih
/-- the state of facts_fault's loop -/
def FfI (ks : List Int) (xs : List PyData) (most : Int) (δ : Env') : Prop := ∃ s3 s4, δ = [some (.val (kD ks)), some (.val (.tuple xs)), some (.val (.int most)), s3, s4]
theorem sub_prev {xs : List PyData} {i : Nat} {x : PyData} (h : xs[i]? = some x) (h0 : 0 < i) : subD (.tuple xs) (.int ((i : Int) - 1)) = some (xs.getD (i - 1) .none) := by
  have hi : i < xs.length := by
    rcases Nat.lt_or_ge i xs.length with q | q
    · exact q
    · rw [List.getElem?_eq_none q] at h; cases h
  have e : ((i : Int) - 1) = ((i - 1 : Nat) : Int) := by omega
  rw [e, subD_tuple (by omega), List.getD_eq_getElem?_getD, List.getElem?_eq_getElem (by omega)]
  rfl
theorem s_fault (hk : 4 ≤ k) (ks : List Int) (v : PyData) (most : Int) : Phi defs k "facts_fault" [.d (kD ks), .d v, .d (.int most)] g = .ok (.d (match faultOf ks v most with
    | none => .none
    | some none => .tuple [.none]
    | some (some i) => .tuple [.int i])) g := by
  obtain ⟨m, rfl, e⟩ := lk (k := k) (x := "facts_fault") (d := d_facts_fault) (by rfl) (by omega)
  rw [e _ _ rfl]
  by_cases hv : ∃ xs, v = .tuple xs
  rotate_left
  · have h1 : isiD .tuple v = false := by cases v <;> first | rfl | exact absurd ⟨_, rfl⟩ hv
    have h2 : faultOf ks v most = some none := by cases v <;> first | rfl | exact absurd ⟨_, rfl⟩ hv
    simp [d_facts_fault, startD, slotOf, h1, h2]
  obtain ⟨xs, rfl⟩ := hv
  simp [d_facts_fault, startD, slotOf]
  by_cases hm : most < (xs.length : Int)
  · have h2 : faultOf ks (.tuple xs) most = some none := by simp [faultOf, hm]
    simp [hm, h2]
  · have h2 : faultOf ks (.tuple xs) most = (scan ks xs 0 xs).map some := by simp [faultOf, hm]
    simp [hm, h2]
    obtain ⟨t1, t2⟩ := turns_scan (g := g) (ks := ks) (xs := xs) (I := FfI ks xs most) (R := fun i => .d (.tuple [.int i])) (f := @fLoop ⟨Phi defs m⟩ (.tp (.cons (.nm 3) (.cons (.nm 4) .nil))) (.cons (.ife (.or (.not (.call "is_fact" (.cons (.var 0) (.cons (.var 4) .nil)))) (.and (.cmp .gt (.var 3) (.cst (.int (0)))) (.not (.cmp .lt (.sub (.var 1) (.bin .sub (.var 3) (.cst (.int (1))))) (.var 4))))) (.cons (.ret (.tup (.cons (.var 3) .nil))) .nil) .nil) .nil)) (fun i x δ ⟨s3, s4, eδ⟩ hx hp => by
      subst eδ
      cases hF : isFact ks x with
      | false =>
        have hb : bad ks xs i x = true := by simp [bad, hF]
        refine ⟨fun _ => ?_, fun h => by rw [hb] at h; cases h⟩
        simp [s_is_fact (show 3 ≤ m by omega), hF]
      | true =>
        by_cases h0 : 0 < i
        · have e1 := sub_prev hx h0
          have hp := hp h0
          have e0 : bad ks xs i x = !PySem.W.dataLt (xs.getD (i - 1) .none) x := by simp only [bad, hF, h0]; simp
          obtain ⟨q, eq⟩ : ∃ q, xs.getD (i - 1) .none = q := ⟨_, rfl⟩
          rw [eq] at e1 hp e0
          have e2 := fact_lt hp hF
          rw [e0]
          cases hd : PySem.W.dataLt q x with
          | true =>
            refine ⟨fun h => (by cases h), fun _ => ⟨_, ⟨some (.val (.int i)), some (.val x), rfl⟩, ?_⟩⟩
            simp [s_is_fact (show 3 ≤ m by omega), hF, h0, e1, e2, hd]
          | false =>
            refine ⟨fun _ => ?_, fun h => (by cases h)⟩
            simp [s_is_fact (show 3 ≤ m by omega), hF, h0, e1, e2, hd]
        · have hi : i = 0 := by omega
          subst hi
          have hb : bad ks xs 0 x = false := by simp [bad, hF]
          refine ⟨fun h => (by rw [hb] at h; cases h), fun _ => ⟨_, ⟨some (.val (.int (0 : Nat))), some (.val x), rfl⟩, ?_⟩⟩
          simp [s_is_fact (show 3 ≤ m by omega), hF]) xs [] _ rfl (fun h => absurd h (by decide)) ⟨none, none, rfl⟩
    simp only [List.length_nil] at t1 t2
    cases hs : scan ks xs 0 xs with
    | some i => rw [t1 i hs]; simp
    | none =>
      obtain ⟨δ', _, q⟩ := t2 hs
      rw [q]
      simp
def dueOf (ks : List Int) (v : PyData) : PyData := match faultOf ks v 5400 with
  | none => .tuple [.str "told", v]
  | some none => .tuple [.str "index", .none]
  | some (some i) => .tuple [.str "index", .int i]
/-- the state of _law_due's loop -/
def DuI (ks : List Int) (xs : List PyData) (δ : Env') : Prop := ∃ s2 s3, δ = [some (.val (kD ks)), some (.val (.tuple xs)), s2, s3]
theorem s_due (hk : 4 ≤ k) (ks : List Int) (v : PyData) : Phi defs k "_law_due" [.d (kD ks), .d v] g = .ok (.d (dueOf ks v)) g := by
  obtain ⟨m, rfl, e⟩ := lk (k := k) (x := "_law_due") (d := d__law_due) (by rfl) (by omega)
  rw [e _ _ rfl]
  by_cases hv : ∃ xs, v = .tuple xs
  rotate_left
  · have h1 : isiD .tuple v = false := by cases v <;> first | rfl | exact absurd ⟨_, rfl⟩ hv
    have h2 : faultOf ks v 5400 = some none := by cases v <;> first | rfl | exact absurd ⟨_, rfl⟩ hv
    simp [d__law_due, startD, slotOf, h1, h2, dueOf]
  obtain ⟨xs, rfl⟩ := hv
  simp [d__law_due, startD, slotOf]
  by_cases hm : 5400 < xs.length
  · have hm' : (5400 : Int) < (xs.length : Int) := by omega
    have h2 : faultOf ks (.tuple xs) 5400 = some none := by simp [faultOf, hm']
    simp [hm', h2, dueOf]
  · have hm' : ¬ (5400 : Int) < (xs.length : Int) := by omega
    have h2 : faultOf ks (.tuple xs) 5400 = (scan ks xs 0 xs).map some := by simp [faultOf, hm']
    simp [hm']
    obtain ⟨t1, t2⟩ := turns_scan (g := g) (ks := ks) (xs := xs) (I := DuI ks xs) (R := fun i => .d (.tuple [.str "index", .int i])) (f := @fLoop ⟨Phi defs m⟩ (.tp (.cons (.nm 2) (.cons (.nm 3) .nil))) (.cons (.ife (.or (.not (.call "_law_is_right" (.cons (.var 0) (.cons (.var 3) .nil)))) (.and (.cmp .gt (.var 2) (.cst (.int (0)))) (.not (.cmp .lt (.sub (.var 1) (.bin .sub (.var 2) (.cst (.int (1))))) (.var 3))))) (.cons (.ret (.tup (.cons (.cst (.str "index")) (.cons (.var 2) .nil)))) .nil) .nil) .nil)) (fun i x δ ⟨s3, s4, eδ⟩ hx hp => by
      subst eδ
      cases hF : isFact ks x with
      | false =>
        have hb : bad ks xs i x = true := by simp [bad, hF]
        refine ⟨fun _ => ?_, fun h => by rw [hb] at h; cases h⟩
        simp [s_is_right (show 3 ≤ m by omega), hF]
      | true =>
        by_cases h0 : 0 < i
        · have e1 := sub_prev hx h0
          have hp := hp h0
          have e0 : bad ks xs i x = !PySem.W.dataLt (xs.getD (i - 1) .none) x := by simp only [bad, hF, h0]; simp
          obtain ⟨q, eq⟩ : ∃ q, xs.getD (i - 1) .none = q := ⟨_, rfl⟩
          rw [eq] at e1 hp e0
          have e2 := fact_lt hp hF
          rw [e0]
          cases hd : PySem.W.dataLt q x with
          | true =>
            refine ⟨fun h => (by cases h), fun _ => ⟨_, ⟨some (.val (.int i)), some (.val x), rfl⟩, ?_⟩⟩
            simp [s_is_right (show 3 ≤ m by omega), hF, h0, e1, e2, hd]
          | false =>
            refine ⟨fun _ => ?_, fun h => (by cases h)⟩
            simp [s_is_right (show 3 ≤ m by omega), hF, h0, e1, e2, hd]
        · have hi : i = 0 := by omega
          subst hi
          have hb : bad ks xs 0 x = false := by simp [bad, hF]
          refine ⟨fun h => (by rw [hb] at h; cases h), fun _ => ⟨_, ⟨some (.val (.int (0 : Nat))), some (.val x), rfl⟩, ?_⟩⟩
          simp [s_is_right (show 3 ≤ m by omega), hF]) xs [] _ rfl (fun h => absurd h (by decide)) ⟨none, none, rfl⟩
    simp only [List.length_nil] at t1 t2
    cases hs : scan ks xs 0 xs with
    | some i => rw [t1 i hs]; simp [dueOf, h2, hs]
    | none =>
      obtain ⟨δ', ⟨s3, s4, eδ⟩, q⟩ := t2 hs
      subst eδ
      rw [q]
      simp [dueOf, h2, hs]
theorem s_require (hk : 5 ≤ k) (ks : List Int) (v : PyData) : Phi defs k "require_facts" [.d (kD ks), .d v] g = (match faultOf ks v 5400 with
    | none => .ok (.d v) g
    | some none => .exc 0 [("index", .none)] g
    | some (some i) => .exc 0 [("index", .int i)] g) := by
  obtain ⟨m, rfl, e⟩ := lk (k := k) (x := "require_facts") (d := d_require_facts) (by rfl) (by omega)
  rw [e _ _ rfl]
  simp [d_require_facts, startD, slotOf, s_fault (show 4 ≤ m by omega)]
  cases faultOf ks v 5400 with
  | none => simp [beqD]
  | some o => cases o <;> simp [beqD]
theorem s_told (hk : 6 ≤ k) (ks : List Int) (v : PyData) : Phi defs k "_law_told" [.d (kD ks), .d v] g = .ok (.d (dueOf ks v)) g := by
  obtain ⟨m, rfl, e⟩ := lk (k := k) (x := "_law_told") (d := d__law_told) (by rfl) (by omega)
  rw [e _ _ rfl]
  simp [d__law_told, startD, slotOf, s_require (show 5 ≤ m by omega)]
  unfold dueOf
  cases faultOf ks v 5400 with
  | none => simp
  | some o => cases o <;> simp [evX, evXs]
theorem s_table (hk : 1 ≤ k) {xs : List PyData} (h : ∀ x ∈ xs, TupKey x) (hl : xs.length ≤ 10000000) : Phi defs k "table_of" [.d (.tuple xs)] g = .ok (.d (.dict (tabFrom [] xs))) g := by
  obtain ⟨m, rfl, e⟩ := lk (k := k) (x := "table_of") (d := d_table_of) (by rfl) (by omega)
  rw [e _ _ rfl]
  simp [d_table_of, startD, slotOf]
  rw [loopD_tab (g := g) (acc := []) (fun d hd => ⟨by simp, h d hd⟩) (by simp) (by simpa using (show xs.length ≤ maxLen from hl))]
  simp
theorem s_among (hk : 2 ≤ k) {xs ys : List PyData} (hx : ∀ x ∈ xs, TupKey x) (hy : ∀ x ∈ ys, TupKey x) (hl : ys.length ≤ 10000000) : Phi defs k "are_among" [.d (.tuple xs), .d (.tuple ys)] g = .ok (.d (.bool (xs.all fun x => ys.any fun y => beqD y x))) g := by
  obtain ⟨m, rfl, e⟩ := lk (k := k) (x := "are_among") (d := d_are_among) (by rfl) (by omega)
  rw [e _ _ rfl]
  simp [d_are_among, startD, slotOf, s_table (show 1 ≤ m by omega) hy hl]
  rw [loopC_map (h := fun x => .bool (ys.any fun y => beqD y x)) (fun d hd => by
    simp
    rw [show cmpD .isin d (.dict (tabFrom [] ys)) = inD d (.dict (tabFrom [] ys)) from rfl, inD_dict (hx d hd) (tabFrom_keys (p := fun k => isTupD k = true) ys [] (by simp) fun y hy' => (hy y hy').1), tabFrom_has]
    simp [dhas])]
  simp [biD_all]
end
end Lk01
/-! text k01M -/
set_option Elab.async false
set_option linter.all false
set_option maxRecDepth 100000
set_option maxHeartbeats 400000
namespace Lk01
open PySem PySem.Spec L2 Ld
open PyProof.Rows hiding St

/-! ### scans -/
theorem scan_none {ks : List Int} {xs : List PyData} : ∀ {rest : List PyData} {i : Nat}, xs.drop i = rest → (∀ j x, i ≤ j → xs[j]? = some x → bad ks xs j x = false) → scan ks xs i rest = none
  | [], _, _, _ => rfl
  | x :: rest, i, e, h => by
    have hx : xs[i]? = some x := by
      have := congrArg (fun l => l[0]?) e
      simpa using this
    have e2 : xs.drop (i + 1) = rest := by
      have := congrArg List.tail e
      simpa using this
    simp only [scan, h i x (Nat.le_refl i) hx, Bool.false_eq_true, if_false]
    exact scan_none e2 fun j y hj => h j y (by omega)
theorem scan_at {ks : List Int} {xs : List PyData} {n : Nat} {y : PyData} (hy : xs[n]? = some y) (hb : bad ks xs n y = true) : ∀ {rest : List PyData} {i : Nat}, xs.drop i = rest → i ≤ n → (∀ j x, i ≤ j → j < n → xs[j]? = some x → bad ks xs j x = false) → scan ks xs i rest = some n
  | [], i, e, hi, _ => by
    have hn : n < xs.length := by
      rcases Nat.lt_or_ge n xs.length with q | q
      · exact q
      · rw [List.getElem?_eq_none q] at hy; cases hy
    have := congrArg List.length e
    simp at this
    omega
  | x :: rest, i, e, hi, h => by
    have hx : xs[i]? = some x := by
      have := congrArg (fun l => l[0]?) e
      simpa using this
    have e2 : xs.drop (i + 1) = rest := by
      have := congrArg List.tail e
      simpa using this
    by_cases hin : i = n
    · subst hin
      rw [hx] at hy
      cases hy
      simp only [scan, hb, if_true]
    · simp only [scan, h i x (Nat.le_refl i) (by omega) hx, Bool.false_eq_true, if_false]
      exact scan_at hy hb e2 (by omega) fun j z hj => h j z (by omega)
/-! ### all facts of two things -/
def F2 (k a b : PyData) : PyData := .tuple [k, .tuple [a, b]]
@[irreducible] def R30 : List PyData := rangeD 0 30
theorem r30 : rangeD 0 30 = R30 := by unfold R30; rfl
@[irreducible] def R6 : List PyData := rangeD 0 6
theorem r6 : rangeD 0 6 = R6 := by unfold R6; rfl
theorem rng30 : rngD none (some 30) = some R30 := by
  rw [rngD_one (by omega) (by omega)]
  show some (rangeD 0 30) = _
  rw [r30]
theorem rng6 : rngD none (some 6) = some R6 := by
  rw [rngD_one (by omega) (by omega)]
  show some (rangeD 0 6) = _
  rw [r6]
@[irreducible] def allF (k : PyData) : List PyData := R30.flatMap fun a => R30.map fun b => F2 k a b
@[irreducible] def many : List PyData := R6.flatMap allF
def k6 : List Int := [2, 2, 2, 2, 2, 2]
theorem r30_len : R30.length = 30 := by rw [← r30, rangeD_map, List.length_map, rangeI_len]
theorem r6_len : R6.length = 6 := by rw [← r6, rangeD_map, List.length_map, rangeI_len]
theorem allF_len (k : PyData) : (allF k).length = 900 := by
  unfold allF
  rw [List.length_flatMap]
  have e : ∀ l : List PyData, (l.map fun a => (R30.map fun b => F2 k a b).length).sum = l.length * 30 := fun l => by
    induction l with
    | nil => rfl
    | cons a l ih => rw [List.map_cons, List.sum_cons, ih, List.length_map, r30_len, List.length_cons, Nat.succ_mul, Nat.add_comm]
  rw [e, r30_len]
theorem many_len : many.length = 5400 := by
  unfold many
  rw [List.length_flatMap]
  have e : ∀ l : List PyData, (l.map fun a => (allF a).length).sum = l.length * 900 := fun l => by
    induction l with
    | nil => rfl
    | cons a l ih => rw [List.map_cons, List.sum_cons, ih, allF_len, List.length_cons, Nat.succ_mul, Nat.add_comm]
  rw [e, r6_len]
theorem many_eq : many = (rangeI 0 6).flatMap fun k => (rangeI 0 30).flatMap fun a => (rangeI 0 30).map fun b => F2 (.int k) (.int a) (.int b) := by
  unfold many allF
  simp only [← r30, ← r6, rangeD_map, List.flatMap_map, List.map_map]
  rfl
theorem many_mem {x : PyData} : x ∈ many ↔ ∃ k a b : Int, x = F2 (.int k) (.int a) (.int b) ∧ (0 ≤ k ∧ k < 6) ∧ (0 ≤ a ∧ a < 30) ∧ (0 ≤ b ∧ b < 30) := by
  rw [many_eq]
  simp only [List.mem_flatMap, List.mem_map, mem_rangeI]
  constructor
  · rintro ⟨k, hk, a, ha, b, hb, rfl⟩
    exact ⟨k, a, b, rfl, by omega, by omega, by omega⟩
  · rintro ⟨k, a, b, rfl, hk, ha, hb⟩
    exact ⟨k, by omega, a, by omega, b, by omega, rfl⟩
theorem al_int (x y : Int) : PySem.W.alike (.int x) (.int y) = true := by simp [PySem.W.alike]
theorem lt_b {k a b b' : Int} (h : b < b') : PySem.W.dataLt (F2 (.int k) (.int a) (.int b)) (F2 (.int k) (.int a) (.int b')) = true := by
  unfold F2
  rw [ltT_eq _ (al_int _ _), ltT_sub (by simp [PySem.W.alike, PySem.W.alikeAll]) (by simp [PyData.eqv, PyData.eqvAll]; omega), ltT_eq _ (al_int _ _), ltT_ne (by omega)]
  exact decide_eq_true h
theorem lt_a {k a b a' b' : Int} (h : a < a') : PySem.W.dataLt (F2 (.int k) (.int a) (.int b)) (F2 (.int k) (.int a') (.int b')) = true := by
  unfold F2
  rw [ltT_eq _ (al_int _ _), ltT_sub (by simp [PySem.W.alike, PySem.W.alikeAll]) (by simp [PyData.eqv, PyData.eqvAll]; omega), ltT_ne (by omega)]
  exact decide_eq_true h
theorem lt_k {k a b k' a' b' : Int} (h : k < k') : PySem.W.dataLt (F2 (.int k) (.int a) (.int b)) (F2 (.int k') (.int a') (.int b')) = true := by
  unfold F2
  rw [ltT_ne (by omega)]
  exact decide_eq_true h
theorem many_lt : many.Pairwise fun x y => PySem.W.dataLt x y = true := by
  rw [many_eq, List.pairwise_flatMap]
  refine ⟨fun k _ => ?_, (rangeI_lt 6 0).imp fun {k k'} hk x hx y hy => ?_⟩
  · rw [List.pairwise_flatMap]
    refine ⟨fun a _ => ?_, (rangeI_lt 30 0).imp fun {a a'} ha x hx y hy => ?_⟩
    · rw [List.pairwise_map]
      exact (rangeI_lt 30 0).imp fun h => lt_b h
    · obtain ⟨b, _, rfl⟩ := List.mem_map.mp hx
      obtain ⟨b', _, rfl⟩ := List.mem_map.mp hy
      exact lt_a ha
  · obtain ⟨a, _, hx⟩ := List.mem_flatMap.mp hx
    obtain ⟨b, _, rfl⟩ := List.mem_map.mp hx
    obtain ⟨a', _, hy⟩ := List.mem_flatMap.mp hy
    obtain ⟨b', _, rfl⟩ := List.mem_map.mp hy
    exact lt_k hk
theorem many_fact {x : PyData} (h : x ∈ many) : isFact k6 x = true := by
  obtain ⟨k, a, b, rfl, hk, ha, hb⟩ := many_mem.mp h
  have e : kAt k6 k = 2 := by
    have : k = 0 ∨ k = 1 ∨ k = 2 ∨ k = 3 ∨ k = 4 ∨ k = 5 := by omega
    rcases this with rfl | rfl | rfl | rfl | rfl | rfl <;> rfl
  unfold k6 at e ⊢
  simp [isFact, F2, whole, e]
  omega
theorem many_at {i : Nat} {x : PyData} (h : many[i]? = some x) : bad k6 many i x = false := by
  obtain ⟨hi, e⟩ := List.getElem?_eq_some_iff.mp h
  have h1 := many_fact (List.mem_of_getElem? h)
  unfold bad
  rw [h1]
  by_cases h0 : 0 < i
  · have hi' : i - 1 < many.length := by omega
    have h2 := List.pairwise_iff_getElem.mp many_lt (i - 1) i hi' hi (by omega)
    rw [e] at h2
    rw [List.getD_eq_getElem?_getD, List.getElem?_eq_getElem hi']
    simp [h2]
  · simp [h0]
theorem due_none {ks : List Int} {v : PyData} (e : faultOf ks v 5400 = none) : dueOf ks v = .tuple [.str "told", v] := by
  unfold dueOf
  rw [e]
theorem due_all {ks : List Int} {v : PyData} (e : faultOf ks v 5400 = some none) : dueOf ks v = .tuple [.str "index", .none] := by
  unfold dueOf
  rw [e]
theorem due_at {ks : List Int} {v : PyData} {i : Nat} (e : faultOf ks v 5400 = some (some i)) : dueOf ks v = .tuple [.str "index", .int i] := by
  unfold dueOf
  rw [e]
theorem fault_long {ks : List Int} {xs : List PyData} (h : 5400 < xs.length) : faultOf ks (.tuple xs) 5400 = some none := by
  have e : faultOf ks (.tuple xs) 5400 = if (xs.length : Int) > 5400 then some none else (scan ks xs 0 xs).map some := rfl
  rw [e, if_pos (by omega)]
theorem fault_scan {ks : List Int} {xs : List PyData} (h : xs.length ≤ 5400) : faultOf ks (.tuple xs) 5400 = (scan ks xs 0 xs).map some := by
  have e : faultOf ks (.tuple xs) 5400 = if (xs.length : Int) > 5400 then some none else (scan ks xs 0 xs).map some := rfl
  rw [e, if_neg (by omega)]
/-- what is needed of a long list of facts -/
structure ManyOk (ks : List Int) (M : List PyData) : Prop where
  len : M.length = 5400
  fact : ∀ x ∈ M, isFact ks x = true
  ok : ∀ i x, M[i]? = some x → bad ks M i x = false
  lt : M.Pairwise fun x y => PySem.W.dataLt x y = true
theorem many_ok : ManyOk k6 many := ⟨many_len, fun _ h => many_fact h, fun _ _ h => many_at h, many_lt⟩
section
variable {ks : List Int} {M : List PyData}
theorem ManyOk.fault (h : ManyOk ks M) : faultOf ks (.tuple M) 5400 = none := by
  rw [fault_scan (Nat.le_of_eq h.len), scan_none (List.drop_zero) fun j x _ hx => h.ok j x hx]
  rfl
theorem ManyOk.more (h : ManyOk ks M) (y : PyData) : dueOf ks (.tuple (M ++ [y])) = .tuple [.str "index", .none] := by
  refine due_all (fault_long ?_)
  rw [List.length_append, h.len, List.length_singleton]
  omega
/-- one fact in another's place -/
theorem ManyOk.odd (H : ManyOk ks M) {n : Nat} {odd : PyData} (hn : 0 < n) (hn2 : n < 5400) (ho : isFact ks odd = false ∨ odd = M.getD (n - 1) .none) : dueOf ks (.tuple (M.take n ++ [odd] ++ M.drop (n + 1))) = .tuple [.str "index", .int n] := by
  have hl := H.len
  have ht : (M.take n).length = n := by rw [List.length_take]; omega
  have lo : ∀ j, j < n → (M.take n ++ [odd] ++ M.drop (n + 1))[j]? = M[j]? := fun j hj => by
    rw [List.append_assoc, List.getElem?_append_left (by omega), List.getElem?_take_of_lt hj]
  have at_ : (M.take n ++ [odd] ++ M.drop (n + 1))[n]? = some odd := by
    rw [List.append_assoc, List.getElem?_append_right (by omega), ht, Nat.sub_self, List.singleton_append, List.getElem?_cons_zero]
  have lo' : ∀ j, j < n → (M.take n ++ [odd] ++ M.drop (n + 1)).getD j .none = M.getD j .none := fun j hj => by
    rw [List.getD_eq_getElem?_getD, List.getD_eq_getElem?_getD, lo j hj]
  have len : (M.take n ++ [odd] ++ M.drop (n + 1)).length = 5400 := by
    simp [hl]
    omega
  have hb : bad ks (M.take n ++ [odd] ++ M.drop (n + 1)) n odd = true := by
    unfold bad
    rcases ho with ho | ho
    · rw [ho]; rfl
    · rw [lo' (n - 1) (by omega), ← ho, lt_irrefl]
      simp [hn]
  refine due_at ?_
  rw [fault_scan (Nat.le_of_eq len), scan_at at_ hb (List.drop_zero) (Nat.zero_le n) fun j x _ hj hx => ?_]
  · rfl
  · rw [lo j hj] at hx
    have q := H.ok _ _ hx
    unfold bad at q ⊢
    rw [← q]
    by_cases h0 : 0 < j
    · rw [lo' (j - 1) (by omega)]
    · simp [h0]
end
end Lk01
/-! text k01N -/
set_option Elab.async false
set_option linter.all false
set_option maxRecDepth 100000
set_option maxHeartbeats 300000
namespace Lk01
open PySem PySem.Spec L2 Ld
open PyProof.Rows hiding St
section
variable {k : Nat} {g : G}
def AfS (kd : PyData) (acc : List PyData) (δ : Env') : Prop := ∃ s2 s3, δ = [some (.val kd), some (.own (.list acc)), s2, s3]
theorem s_all_facts (hk : 1 ≤ k) (kd : PyData) : Phi defs k "_law_all_facts" [.d kd] g = .ok (.d (.list (allF kd))) g := by
  obtain ⟨m, rfl, e⟩ := lk (k := k) (x := "_law_all_facts") (d := d__law_all_facts) (by rfl) (by omega)
  rw [e _ _ rfl]
  have hA : allF kd = R30.flatMap fun a => R30.map fun b => F2 kd a b := by unfold allF; rfl
  have hr := rng30
  have hl := r30_len
  rw [hA]
  revert hr hl
  generalize R30 = R
  intro hr hl
  simp [d__law_all_facts, startD, slotOf]
  rw [hr]
  simp only [ofO_some, bR_ok]
  obtain ⟨δ', ⟨s2, s3, eδ⟩, q⟩ := turns_ext (g := g) (f := @fLoop ⟨Phi defs m⟩ (.nm 2) (.cons (.ext 1 (.lc (.tup (.cons (.var 0) (.cons (.tup (.cons (.var 2) (.cons (.var 3) .nil))) .nil))) (.nm 3) (.rng .omit (.cst (.int (30)))) .omit)) .nil)) (S := AfS kd) (h := fun d => R.map fun b => F2 kd d b) (c := 30) (N := 100000) (fun d => by rw [List.length_map, hl]; exact Nat.le_refl _) (ds := R) (acc := []) (δ := [some (.val kd), some (.own (.list [])), none, none]) (by rw [hl, List.length_nil]; omega) ⟨none, none, rfl⟩ (fun d hd acc δ ⟨s2, s3, eδ⟩ hn => by
    subst eδ
    refine ⟨[some (.val kd), some (.own (.list (acc ++ R.map fun b => F2 kd d b))), some (.val d), s3], ⟨_, _, rfl⟩, ?_⟩
    simp
    rw [hr]
    simp only [ofO_some, bR_ok]
    rw [loopC_map (g := g) (h := fun b => F2 kd d b) (fun b hb => by simp [F2])]
    simp
    rw [appD_ok (by rw [List.length_map, hl]; omega)]
    simp)
  subst eδ
  rw [q]
  simp
theorem fact_noB {ks : List Int} {x : PyData} (h : isFact ks x = true) : noB x = true := by
  obtain ⟨i, ts, rfl, _⟩ := fact_int h
  simp [noB, noBs, noBs_ints]
theorem fact_depth {ks : List Int} {x : PyData} (h : isFact ks x = true) : x.depth ≤ 4 := by
  obtain ⟨i, ts, rfl, _⟩ := fact_int h
  have := depth_ints ts
  simp [PyData.depth, PyData.depthAll]
  omega
theorem fact_key {ks : List Int} {x : PyData} (h : isFact ks x = true) : TupKey x := by
  obtain ⟨i, ts, rfl, _⟩ := fact_int h
  refine ⟨rfl, ?_⟩
  unfold keyable
  have hn : ∀ l : List Int, NestedKey.depthAll (l.map .num) ≤ 1 := fun l => by
    induction l with
    | nil => simp [NestedKey.depthAll]
    | cons a l ih => simp [NestedKey.depthAll, NestedKey.depth]; omega
  have := hn ts
  simp [toKey, toKeys, ints_keys, NestedKey.depth, NestedKey.depthAll]
  omega
section
variable {ks : List Int} {M : List PyData}
theorem ManyOk.ne (H : ManyOk ks M) {n : Nat} (hn : n < M.length) {y : PyData} (hy : y ∈ M.take n ++ M.drop (n + 1)) : beqD y M[n] = false := by
  have key : ∀ a b : PyData, PySem.W.dataLt a b = true → a ≠ b := fun a b h e => by
    rw [e, lt_irrefl] at h
    cases h
  have hne : y ≠ M[n] := by
    rcases List.mem_append.mp hy with h | h
    · obtain ⟨j, hj, e⟩ := List.mem_iff_getElem.mp h
      rw [List.length_take] at hj
      rw [List.getElem_take] at e
      have := List.pairwise_iff_getElem.mp H.lt j n (by omega) hn (by omega)
      rw [e] at this
      exact key _ _ this
    · obtain ⟨j, hj, e⟩ := List.mem_iff_getElem.mp h
      rw [List.length_drop] at hj
      rw [List.getElem_drop] at e
      have := List.pairwise_iff_getElem.mp H.lt n (n + 1 + j) hn (by omega) (by omega)
      rw [e] at this
      exact fun e2 => key _ _ this e2.symm
  cases h : beqD y M[n] with
  | false => rfl
  | true => exact absurd (beqD_iff.mp h) hne
theorem ManyOk.out (H : ManyOk ks M) {n : Nat} (hn : n < M.length) : (M.all fun x => (M.take n ++ M.drop (n + 1)).any fun y => beqD y x) = false := by
  rw [List.all_eq_false]
  refine ⟨M[n], List.getElem_mem hn, ?_⟩
  rw [Bool.not_eq_true, List.any_eq_false]
  intro y hy
  rw [H.ne hn hy]
  exact Bool.false_ne_true
theorem all_in {L M : List PyData} (h : ∀ x ∈ L, x ∈ M) : (L.all fun x => M.any fun y => beqD y x) = true := by
  rw [List.all_eq_true]
  intro x hx
  rw [List.any_eq_true]
  exact ⟨x, h x hx, beqD_self x⟩
end
theorem k6_eq : binD .mul (.tuple [.int 2]) (.int 6) = some (kD k6) := by decide +kernel
section
variable {M : List PyData}
theorem ManyOk.noB (H : ManyOk ks M) {x : PyData} (h : x ∈ M) : noB x = true := fact_noB (H.fact x h)
/-- the slots of many_right's loops -/
def MrS (s0 : PyData) (M : List PyData) (n : Nat) (s5 : Option Slot) (s1 : Option Slot) : Env' := [some (.own s0), s1, some (.val (.tuple M)), some (.val (kD k6)), some (.val (.int n)), s5]
theorem odd_turn (hk : 7 ≤ k) (H : ManyOk k6 M) {s0 : PyData} {s1 s5 : Option Slot} {n : Nat} (hn : 0 < n) (hn2 : n < 5400) {odd : PyData} (ho : isFact k6 odd = false ∨ odd = M.getD (n - 1) .none) (hno : noB odd = true ∧ odd.depth ≤ 10) :
    @fLoop ⟨Phi defs k⟩ (.nm 5) (.cons (.ife (.cmp .ne (.call "_law_told" (.cons (.var 3) (.cons (.bin .add (.bin .add (.slc (.var 2) .omit (.var 4)) (.tup (.cons (.var 5) .nil))) (.slc (.var 2) (.bin .add (.var 4) (.cst (.int (1)))) .omit)) .nil))) (.tup (.cons (.cst (.str "index")) (.cons (.var 4) .nil)))) (.cons (.ret (.cst (.bool false))) .nil) .nil) .nil) odd (MrS s0 M n s5 s1) g = .ok (.nx (MrS s0 M n (some (.val odd)) s1)) g := by
  have e1 : slcD (.tuple M) none (some (n : Int)) = some (.tuple (M.take n)) := slc_to (by rw [H.len]; omega)
  have e2 : slcD (.tuple M) (some ((n : Int) + 1)) none = some (.tuple (M.drop (n + 1))) := slc_from (n := n + 1) (by rw [H.len]; omega)
  have hl : M.length = 5400 := H.len
  have e3 : binD .add (.tuple (M.take n)) (.tuple [odd]) = some (.tuple (M.take n ++ [odd])) := binD_addT (by rw [List.length_take, List.length_singleton, hl]; show _ ≤ 10000000; omega)
  have e4 : binD .add (.tuple (M.take n ++ [odd])) (.tuple (M.drop (n + 1))) = some (.tuple (M.take n ++ [odd] ++ M.drop (n + 1))) := binD_addT (by rw [List.length_append, List.length_take, List.length_singleton, List.length_drop, hl]; show _ ≤ 10000000; omega)
  have e5 := H.odd hn hn2 ho
  have e6 : eqD (.tuple [.str "index", .int n]) (.tuple [.str "index", .int n]) = some true := eqD_self (by simp [Ld.noB, noBs]) (by simp [PyData.depth, PyData.depthAll])
  simp [MrS, e1]
  rw [e3]
  simp
  rw [e2]
  simp
  rw [e4]
  simp [s_told (show 6 ≤ k by omega)]
  rw [List.append_assoc, List.singleton_append] at e5
  rw [e5]
  simp [e6]
theorem at_turn (hk : 7 ≤ k) (H : ManyOk k6 M) {s0 : PyData} {s1 s4 s5 : Option Slot} {n : Nat} (hn : 0 < n) (hn2 : n < 5400) :
    ∃ s5', @fLoop ⟨Phi defs k⟩ (.nm 4) (.cons (.loop (.nm 5) (.tup (.cons (.tup (.cons (.cst (.int (0))) (.cons (.tup (.cons (.cst (.int (0))) (.cons (.cst (.int (30))) .nil))) .nil))) (.cons (.sub (.var 2) (.bin .sub (.var 4) (.cst (.int (1))))) (.cons (.cst .none) .nil)))) (.cons (.ife (.cmp .ne (.call "_law_told" (.cons (.var 3) (.cons (.bin .add (.bin .add (.slc (.var 2) .omit (.var 4)) (.tup (.cons (.var 5) .nil))) (.slc (.var 2) (.bin .add (.var 4) (.cst (.int (1)))) .omit)) .nil))) (.tup (.cons (.cst (.str "index")) (.cons (.var 4) .nil)))) (.cons (.ret (.cst (.bool false))) .nil) .nil) .nil)) (.cons (.ife (.call "are_among" (.cons (.var 2) (.cons (.bin .add (.slc (.var 2) .omit (.var 4)) (.slc (.var 2) (.bin .add (.var 4) (.cst (.int (1)))) .omit)) .nil))) (.cons (.ret (.cst (.bool false))) .nil) .nil) .nil)) (.int n) [some (.own s0), s1, some (.val (.tuple M)), some (.val (kD k6)), s4, s5] g = .ok (.nx (MrS s0 M n s5' s1)) g := by
  have hl : M.length = 5400 := H.len
  have hn1 : n - 1 < M.length := by omega
  have e0 : subD (.tuple M) (.int ((n : Int) - 1)) = some (M.getD (n - 1) .none) := by
    rw [show ((n : Int) - 1) = ((n - 1 : Nat) : Int) by omega, subD_tuple hn1, List.getD_eq_getElem?_getD, List.getElem?_eq_getElem hn1]
    rfl
  have hmem : M.getD (n - 1) .none ∈ M := by
    rw [List.getD_eq_getElem?_getD, List.getElem?_eq_getElem hn1]
    exact List.getElem_mem hn1
  have e1 : slcD (.tuple M) none (some (n : Int)) = some (.tuple (M.take n)) := slc_to (by omega)
  have e2 : slcD (.tuple M) (some ((n : Int) + 1)) none = some (.tuple (M.drop (n + 1))) := slc_from (n := n + 1) (by omega)
  have e3 : binD .add (.tuple (M.take n)) (.tuple (M.drop (n + 1))) = some (.tuple (M.take n ++ M.drop (n + 1))) := binD_addT (by rw [List.length_take, List.length_drop, hl]; show _ ≤ 10000000; omega)
  have key : ∀ x ∈ M, TupKey x := fun x hx => fact_key (H.fact x hx)
  have e4 := s_among (g := g) (k := k) (by omega) key (ys := M.take n ++ M.drop (n + 1)) (fun x hx => by
    rcases List.mem_append.mp hx with h | h
    · exact key x (List.mem_of_mem_take h)
    · exact key x (List.mem_of_mem_drop h)) (by rw [List.length_append, List.length_take, List.length_drop, hl]; omega)
  rw [H.out (by omega)] at e4
  refine ⟨some (.val .none), ?_⟩
  obtain ⟨prev, hprev⟩ : ∃ p, M.getD (n - 1) .none = p := ⟨_, rfl⟩
  have t1 := odd_turn (g := g) hk H (s0 := s0) (s1 := s1) (s5 := s5) hn hn2 (odd := .tuple [.int 0, .tuple [.int 0, .int 30]]) (.inl (by decide +kernel)) ⟨by simp [Ld.noB, noBs], by simp [PyData.depth, PyData.depthAll]⟩
  have t2 := odd_turn (g := g) hk H (s0 := s0) (s1 := s1) (s5 := some (.val (.tuple [.int 0, .tuple [.int 0, .int 30]]))) hn hn2 (odd := prev) (.inr hprev.symm) (by
    rw [← hprev]
    exact ⟨H.noB hmem, by have := fact_depth (H.fact _ hmem); omega⟩)
  have t3 := odd_turn (g := g) hk H (s0 := s0) (s1 := s1) (s5 := some (.val prev)) hn hn2 (odd := .none) (.inl rfl) ⟨rfl, by simp [PyData.depth]⟩
  rw [hprev] at e0
  simp
  rw [e0]
  simp
  have et : ∀ s5, [some (Slot.own s0), s1, some (Slot.val (PyData.tuple M)), some (Slot.val (kD k6)), some (Slot.val (PyData.int n)), s5] = MrS s0 M n s5 s1 := fun _ => rfl
  rw [et, turnsC, t1, bR_ok, kTurn_nx, turnsC, t2, bR_ok, kTurn_nx, turnsC, t3, bR_ok, kTurn_nx, turnsN]
  simp
  unfold MrS
  simp
  rw [e1]
  simp
  rw [e2]
  simp
  rw [e3]
  simp
  rw [e4]
  simp
def MsS (acc : List PyData) (δ : Env') : Prop := ∃ s1, δ = [some (.own (.list acc)), s1, none, none, none, none]
def bAt : Ss := (.cons (.loop (.nm 5) (.tup (.cons (.tup (.cons (.cst (.int (0))) (.cons (.tup (.cons (.cst (.int (0))) (.cons (.cst (.int (30))) .nil))) .nil))) (.cons (.sub (.var 2) (.bin .sub (.var 4) (.cst (.int (1))))) (.cons (.cst .none) .nil)))) (.cons (.ife (.cmp .ne (.call "_law_told" (.cons (.var 3) (.cons (.bin .add (.bin .add (.slc (.var 2) .omit (.var 4)) (.tup (.cons (.var 5) .nil))) (.slc (.var 2) (.bin .add (.var 4) (.cst (.int (1)))) .omit)) .nil))) (.tup (.cons (.cst (.str "index")) (.cons (.var 4) .nil)))) (.cons (.ret (.cst (.bool false))) .nil) .nil) .nil)) (.cons (.ife (.call "are_among" (.cons (.var 2) (.cons (.bin .add (.slc (.var 2) .omit (.var 4)) (.slc (.var 2) (.bin .add (.var 4) (.cst (.int (1)))) .omit)) .nil))) (.cons (.ret (.cst (.bool false))) .nil) .nil) .nil))
theorem s_many (hk : 8 ≤ k) : Phi defs k "_law_many_right" [] g = .ok (.d (.bool true)) g := by
  obtain ⟨m, rfl, e⟩ := lk (k := k) (x := "_law_many_right") (d := d__law_many_right) (by rfl) (by omega)
  rw [e _ _ rfl]
  have hA : many = R6.flatMap allF := by unfold many; rfl
  have hr := rng6
  have hl6 := r6_len
  have H := many_ok
  rw [hA] at H
  revert hr hl6 H
  generalize R6 = R
  intro hr hl6 H
  simp [d__law_many_right, startD, slotOf]
  rw [hr]
  simp only [ofO_some, bR_ok]
  obtain ⟨δ', ⟨s1, eδ⟩, q⟩ := turns_ext (g := g) (f := @fLoop ⟨Phi defs m⟩ (.nm 1) (.cons (.ext 0 (.call "_law_all_facts" (.cons (.var 1) .nil))) .nil)) (S := MsS) (h := allF) (c := 900) (N := 100000) (fun d => by rw [allF_len]; exact Nat.le_refl _) (ds := R) (acc := []) (δ := [some (.own (.list [])), none, none, none, none, none]) (by rw [hl6, List.length_nil]; omega) ⟨none, rfl⟩ (fun d hd acc δ ⟨s1, eδ⟩ hn => by
    subst eδ
    refine ⟨[some (.own (.list (acc ++ allF d))), some (.val d), none, none, none, none], ⟨_, rfl⟩, ?_⟩
    simp [s_all_facts (show 1 ≤ m by omega)]
    rw [appD_ok (by rw [allF_len]; omega)]
    simp)
  subst eδ
  rw [q]
  simp only [List.nil_append]
  revert H
  generalize R.flatMap allF = M
  intro H
  have hl : M.length = 5400 := H.len
  have key : ∀ x ∈ M, TupKey x := fun x hx => fact_key (H.fact x hx)
  have e1 := s_require (g := g) (k := m) (by omega) k6 (.tuple M)
  rw [H.fault] at e1
  have e2 := s_told (g := g) (k := m) (by omega) k6 (.tuple (M ++ [.tuple [.int 0, .tuple [.int 0, .int 0]]]))
  rw [H.more] at e2
  have e3 : eqD (.tuple M) (.tuple M) = some true := eqD_self (by simp only [Ld.noB]; exact noBs_iff.mpr fun x hx => H.noB hx) (by
    have := depthAll_le (n := 4) fun x hx => fact_depth (H.fact x hx)
    simp only [PyData.depth]
    omega)
  have e4 : eqD (.tuple [.str "index", .none]) (.tuple [.str "index", .none]) = some true := eqD_self (by simp [Ld.noB, noBs]) (by simp [PyData.depth, PyData.depthAll])
  have e5 : binD .add (.tuple M) (.tuple [.tuple [.int 0, .tuple [.int 0, .int 0]]]) = some (.tuple (M ++ [.tuple [.int 0, .tuple [.int 0, .int 0]]])) := binD_addT (by rw [hl, List.length_singleton]; show _ ≤ 10000000; omega)
  have e6 := k6_eq
  obtain ⟨t1s, t1⟩ := at_turn (g := g) (k := m) (by omega) H (s0 := .list M) (s1 := s1) (s4 := none) (s5 := none) (n := 20) (by omega) (by omega)
  obtain ⟨t2s, t2⟩ := at_turn (g := g) (k := m) (by omega) H (s0 := .list M) (s1 := s1) (s4 := some (.val (.int (20 : Nat)))) (s5 := t1s) (n := 700) (by omega) (by omega)
  obtain ⟨t3s, t3⟩ := at_turn (g := g) (k := m) (by omega) H (s0 := .list M) (s1 := s1) (s4 := some (.val (.int (700 : Nat)))) (s5 := t2s) (n := 5399) (by omega) (by omega)
  have a1 := s_among (g := g) (k := m) (by omega) key key (by rw [hl]; omega)
  rw [all_in (fun x hx => hx)] at a1
  have a2 := s_among (g := g) (k := m) (by omega) key (ys := M.drop 1) (fun x hx => key x (List.mem_of_mem_drop hx)) (by rw [List.length_drop, hl]; omega)
  have o2 := H.out (n := 0) (by omega)
  rw [List.take_zero, List.nil_append] at o2
  rw [o2] at a2
  have a3 := s_among (g := g) (k := m) (by omega) (xs := cutD M (some 7) (some 9)) (ys := M) (fun x hx => key x (List.mem_of_mem_drop (List.mem_of_mem_take hx))) key (by rw [hl]; omega)
  have hcut : ∀ x ∈ cutD M (some 7) (some 9), x ∈ M := fun x hx => List.mem_of_mem_drop (List.mem_of_mem_take hx)
  rw [all_in hcut] at a3
  have l1 : slcD (.tuple M) (some 1) none = some (.tuple (M.drop 1)) := slc_from (n := 1) (by omega)
  have l2 : slcD (.tuple M) (some 7) (some 9) = some (.tuple (cutD M (some 7) (some 9))) := rfl
  simp
  rw [e6]
  simp
  rw [e1]
  simp
  rw [e3]
  simp
  rw [e5]
  simp
  rw [e2]
  simp
  rw [e4]
  simp
  have c1 : PyData.int 20 = PyData.int ((20 : Nat) : Int) := rfl
  have c2 : PyData.int 700 = PyData.int ((700 : Nat) : Int) := rfl
  have c3 : PyData.int 5399 = PyData.int ((5399 : Nat) : Int) := rfl
  rw [c1, c2, c3, turnsC, t1, bR_ok, kTurn_nx, turnsC]
  have m1 : MrS (.list M) M 20 t1s s1 = [some (.own (.list M)), s1, some (.val (.tuple M)), some (.val (kD k6)), some (.val (.int (20 : Nat))), t1s] := rfl
  have m2 : MrS (.list M) M 700 t2s s1 = [some (.own (.list M)), s1, some (.val (.tuple M)), some (.val (kD k6)), some (.val (.int (700 : Nat))), t2s] := rfl
  rw [m1, t2, bR_ok, kTurn_nx, turnsC, m2, t3, bR_ok, kTurn_nx, turnsN]
  simp only [bR_ok, kSs_nx]
  unfold MrS
  simp
  rw [a1]
  simp
  rw [l1]
  simp
  rw [List.drop_one] at a2
  rw [a2]
  simp
  rw [l2]
  simp
  rw [a3]
  simp
end
end
end Lk01
/-! text LpD -/
set_option Elab.async false
set_option linter.all false
set_option maxRecDepth 100000
set_option maxHeartbeats 1000000
namespace Ld
open PySem PySem.Spec L2
open PyProof.Rows hiding St

/-! ### how long a text is shown -/
mutual
def wt : PyData → Nat
  | .none => 4
  | .bool _ => 5
  | .int i => (PyData.int i).shown.length
  | .str x => (PyData.str x).shown.length
  | .list xs => wts xs + 3
  | .tuple xs => wts xs + 3
  | .dict kvs => (PyData.dict kvs).shown.length
def wts : List PyData → Nat
  | [] => 0
  | x :: r => wt x + 2 + wts r
end
theorem listText_le (ts : List Str) : (listText ts).length ≤ piled ts + 3 := by
  unfold listText
  rw [strLen_append]
  have h1 : ((("]" : String) : Str)).length = 1 := rfl
  rw [h1]
  cases ts with
  | nil =>
    show (("[" : Str)).length + 1 ≤ _
    have h2 : ((("[" : String) : Str)).length = 1 := rfl
    rw [h2, piled_nil]
    omega
  | cons t r =>
    have h := textFrom_length_pos r 1 (("[" : Str) ++ (if (0 : Nat) > 0 then ", " else "" : String) ++ t) (Nat.succ_pos 0)
    have e : ((("[" : Str) ++ (if (0 : Nat) > 0 then ", " else "" : String) ++ t)).length = 1 + t.length := by
      rw [strLen_append, strLen_append]; rfl
    have h3 : (textFrom 0 "[" (t :: r)).length = 1 + t.length + piled r := by
      show (textFrom (0 + 1) _ r).length = _
      rw [h, e]
    rw [h3, piled_cons]
    omega
theorem tupleText_le (ts : List Str) : (tupleText ts).length ≤ piled ts + 3 := by
  unfold tupleText
  rw [strLen_append, strLen_append]
  have h2 : ((("(" : String) : Str)).length = 1 := rfl
  rw [h2]
  have h3 : ((if ts.length == 1 then ",)" else ")" : String) : Str).length ≤ 2 := by
    split
    · exact Nat.le_refl 2
    · exact Nat.le_succ 1
  by_cases h : ts = []
  · subst h
    have h4 : (Str.join ", " ([] : List Str)).length = 0 := rfl
    rw [h4, piled_nil]
    omega
  · have := join_length_add ts h
    omega
mutual
theorem shown_le : ∀ v : PyData, v.shown.length ≤ wt v
  | .none => by simp only [wt, PyData.shown]; exact Nat.le_refl 4
  | .bool b => by
    simp only [wt, PyData.shown]
    cases b
    · exact Nat.le_refl 5
    · exact Nat.le_succ 4
  | .int i => by simp only [wt]; exact Nat.le_refl _
  | .str x => by simp only [wt]; exact Nat.le_refl _
  | .dict x => by simp only [wt]; exact Nat.le_refl _
  | .list xs => by
    simp only [wt, PyData.shown]
    exact Nat.le_trans (listText_le _) (Nat.add_le_add_right (shownAll_le xs) 3)
  | .tuple xs => by
    simp only [wt, PyData.shown]
    exact Nat.le_trans (tupleText_le _) (Nat.add_le_add_right (shownAll_le xs) 3)
theorem shownAll_le : ∀ xs : List PyData, piled (PyData.shownAll xs) ≤ wts xs
  | [] => by simp [PyData.shownAll, piled, wts]
  | x :: r => by
    have h1 := shown_le x
    have h2 := shownAll_le r
    simp only [PyData.shownAll, wts]
    rw [piled_cons]
    omega
end
theorem wts_append : ∀ a b : List PyData, wts (a ++ b) = wts a + wts b
  | [], b => by simp [wts]
  | x :: r, b => by simp [wts, wts_append r b]; omega
theorem wts_reverse : ∀ a : List PyData, wts a.reverse = wts a
  | [] => rfl
  | x :: r => by simp [wts_append, wts, wts_reverse r]; omega
theorem wts_take : ∀ (n : Nat) (a : List PyData), wts (a.take n) ≤ wts a
  | 0, a => by simp [wts]
  | n + 1, [] => by simp [wts]
  | n + 1, x :: r => by have := wts_take n r; simp [wts]; omega
theorem wts_drop : ∀ (n : Nat) (a : List PyData), wts (a.drop n) ≤ wts a
  | 0, a => by simp
  | n + 1, [] => by simp [wts]
  | n + 1, x :: r => by have := wts_drop n r; simp [wts]; omega
theorem wts_split : ∀ (n : Nat) (a : List PyData), wts (a.take n) + wts (a.drop n) = wts a
  | n, a => by rw [← wts_append, List.take_append_drop]
theorem len_wts : ∀ a : List PyData, 2 * a.length ≤ wts a
  | [] => by simp [wts]
  | x :: r => by have := len_wts r; simp [wts]; omega
theorem wt_mem {x : PyData} : ∀ {a : List PyData}, x ∈ a → wt x ≤ wts a
  | y :: r, h => by
    rcases List.mem_cons.mp h with rfl | h
    · simp [wts]; omega
    · have := wt_mem h
      simp [wts]; omega
theorem showable_iff : ∀ {l : List PyData}, PyData.showableAll l = true ↔ ∀ x ∈ l, x.showable = true
  | [] => by simp [PyData.showableAll]
  | a :: l => by simp [PyData.showableAll, showable_iff (l := l)]
theorem depthAll_iff {n : Nat} : ∀ {l : List PyData}, PyData.depthAll l ≤ n ↔ ∀ x ∈ l, x.depth ≤ n
  | [] => by simp [PyData.depthAll]
  | a :: l => by rw [PyData.depthAll, Nat.max_le, depthAll_iff, List.forall_mem_cons]
/-- it is shown in so many signs, at such a depth -/
def Sz (d n : Nat) (v : PyData) : Prop := v.showable = true ∧ v.depth ≤ d ∧ wt v ≤ n
theorem Sz.repr {d n : Nat} {v : PyData} (h : Sz d n v) (hd : d ≤ 60) (hn : n ≤ 10000000) : reprD v = some (.str v.shown) :=
  reprD_ok h.1 (Nat.le_trans h.2.1 hd) (Nat.le_trans (Nat.le_trans (shown_le v) h.2.2) hn)
theorem Sz.le {d n d' n' : Nat} {v : PyData} (h : Sz d n v) (hd : d ≤ d') (hn : n ≤ n') : Sz d' n' v := ⟨h.1, Nat.le_trans h.2.1 hd, Nat.le_trans h.2.2 hn⟩
theorem Sz.tuple {d n : Nat} {xs : List PyData} (h : ∀ x ∈ xs, x.showable = true ∧ x.depth ≤ d) (hn : wts xs ≤ n) : Sz (d + 1) (n + 3) (.tuple xs) := by
  refine ⟨?_, ?_, ?_⟩
  · simp only [PyData.showable]
    exact showable_iff.mpr fun x hx => (h x hx).1
  · simp only [PyData.depth]
    exact Nat.add_le_add_right (depthAll_iff.mpr fun x hx => (h x hx).2) 1
  · simp only [wt]
    omega
theorem Sz.list {d n : Nat} {xs : List PyData} (h : ∀ x ∈ xs, x.showable = true ∧ x.depth ≤ d) (hn : wts xs ≤ n) : Sz (d + 1) (n + 3) (.list xs) := by
  refine ⟨?_, ?_, ?_⟩
  · simp only [PyData.showable]
    exact showable_iff.mpr fun x hx => (h x hx).1
  · simp only [PyData.depth]
    exact Nat.add_le_add_right (depthAll_iff.mpr fun x hx => (h x hx).2) 1
  · simp only [wt]
    omega
theorem Sz.inT {d n : Nat} {xs : List PyData} (h : Sz d n (.tuple xs)) : (∀ x ∈ xs, x.showable = true ∧ x.depth + 1 ≤ d) ∧ wts xs + 3 ≤ n := by
  obtain ⟨h1, h2, h3⟩ := h
  simp only [PyData.showable] at h1
  simp only [PyData.depth] at h2
  simp only [wt] at h3
  refine ⟨fun x hx => ⟨showable_iff.mp h1 x hx, ?_⟩, h3⟩
  have := (depthAll_iff (n := d - 1)).mp (by omega) x hx
  omega
end Ld
/-! text LpBd -/
set_option Elab.async false
set_option linter.all false
set_option maxRecDepth 100000
set_option maxHeartbeats 1000000
namespace Ld
open PySem PySem.Spec L2
open PyProof.Rows hiding St
/-- the turns of the mixing -/
def FrI (cells : List Int) (seat c : Int) (δ' : Env') : Prop := ∃ st fd lp, (0 ≤ st ∧ st < 2305843009213693951) ∧ δ' = [some .pen, some (.val (.int seat)), some (.val (.list (cells.map .int))), some (.val (.int c)), some (.val (.int 2305843009213693951)), some (.val (.int st)), some (.val (.int fd)), lp]
/-- the great number that a draw begins with -/
theorem fresh_ok [Fs] (p : Pen) : Gd (runD dFresh [.pen] (some p)) fun x g => IsI x ∧ HasPen g := by
  obtain ⟨cells, seat, left⟩ := p
  rw [run_app rfl]
  simp [dFresh, startD, slotOf]
  refine Gd.bR (P := fun x g => IsI x ∧ g = some ⟨cells, seat + 1, left⟩) ?_ fun a g ⟨⟨c, ea⟩, eg⟩ => ?_
  · rcases Nat.eq_zero_or_pos cells.length with h0 | h0
    · have hE : cells.isEmpty = true := by rw [List.isEmpty_iff]; exact List.length_eq_zero_iff.mp h0
      rw [hE]
      exact .ok ⟨.mk, rfl⟩
    · have hE : cells.isEmpty = false := by
        cases cells with
        | nil => cases h0
        | cons => rfl
      have hl : (0 : Int) < (cells.length : Int) := by omega
      have h1 := Int.emod_nonneg seat (by omega : (cells.length : Int) ≠ 0)
      have h2 := Int.emod_lt_of_pos seat hl
      obtain ⟨j, hj⟩ := Int.eq_ofNat_of_zero_le h1
      have hjl : j < (cells.map PyData.int).length := by rw [List.length_map]; omega
      rw [hE]
      simp
      rw [binD_mod hl, hj]
      simp
      rw [subD_list hjl, List.getElem_map]
      exact .ok ⟨.mk, rfl⟩
  · subst ea eg
    simp
    refine Gd.bR (P := fun x g => IsB x ∧ g = some ⟨cells, seat + 1, left⟩) ?_ fun a g ⟨⟨b, ea⟩, eg⟩ => ?_
    · cases decide (seat < (cells.length : Int)) with
      | true =>
        simp
        exact .ok ⟨.mk, rfl⟩
      | false => exact .ok ⟨.mk, rfl⟩
    · subst ea eg
      cases b with
      | true =>
        simp
        exact .ok ⟨.mk, .mk⟩
      | false =>
        simp [binD_mul (.inr (show bits64 48271 = true by decide +kernel)), binD_mul (.inl (show bits64 60013 = true by decide +kernel)), binD_mod (show (0 : Int) < 2305843009213693951 by decide)]
        have hp : (0 : Int) < 2305843009213693951 := by decide
        generalize hst : ((c * 48271 + 60013 * seat + 31) % 2305843009213693951) = st
        have s1 : 0 ≤ st := by rw [← hst]; exact Int.emod_nonneg _ (by decide)
        have s2 : st < 2305843009213693951 := by rw [← hst]; exact Int.emod_lt_of_pos _ hp
        refine Gd.bR (P := fun fl g => NxI (FrI cells seat c) fl ∧ HasPen g) ?_ fun a g ⟨⟨δ', ea, st', fd, lp, _, eδ⟩, p', eg⟩ => ?_
        · refine Ok.turns (I := FrI cells seat c) ⟨st, st, none, ⟨s1, s2⟩, rfl⟩ (fun d hd δ ⟨st, fd, lp, ⟨s1, s2⟩, eδ⟩ p => ?_) _
          obtain ⟨i, rfl, i1, i2⟩ := mem_rangeD hd
          subst eδ
          have b1 : bits64 (70139 * (i + 5)) = true := bits_of (by omega) (by omega)
          have b2 : bits64 st = true := bits_of (by omega) (by omega)
          simp [binD_mul (.inl b2), binD_mul (.inl b1), binD_mul (.inl (show bits64 70139 = true by decide +kernel)), binD_mod hp, binD_mul (.inr bits_prime)]
          exact .ok ⟨.mk ⟨_, _, _, ⟨Int.emod_nonneg _ (by decide), Int.emod_lt_of_pos _ hp⟩, rfl⟩, .mk⟩
        · subst ea eg eδ
          simp
          exact .ok ⟨.mk, .mk⟩
/-- a number below b -/
def Drawn (b : Int) (x : DV) : Prop := ∃ v : Int, x = .d (.int v) ∧ 0 ≤ v ∧ v < b
theorem draw_ok [Fs] (hf : ∀ p : Pen, Gd (Fs.f "_law_fresh" [.pen] (some p)) fun x g => IsI x ∧ HasPen g) {b : Int} (h1 : 0 < b) (h2 : b < 1073741824) : Ok (runD dDraw [.pen, .d (.int b)]) (Drawn b) := by
  intro p
  obtain ⟨cells, seat, left⟩ := p
  rw [run_app rfl]
  simp [dDraw, startD, slotOf]
  refine Gd.bR (P := fun fl g => fl = Fl.nx [some .pen, some (.val (.int b)), none] ∧ HasPen g) ?_ fun a g ⟨ea, p', eg⟩ => ?_
  · cases decide (left < b) with
    | false => exact .ok ⟨rfl, .mk⟩
    | true =>
      simp
      refine Gd.bR (hf _) fun a g ⟨⟨v, ea⟩, p', eg⟩ => ?_
      subst ea eg
      simp
      exact .ok ⟨rfl, .mk⟩
  · subst ea eg
    simp [binD_mod h1, binD_fdiv h1 h2]
    exact .ok ⟨⟨_, rfl, Int.emod_nonneg _ (by omega), Int.emod_lt_of_pos _ h1⟩, .mk⟩
theorem pen_ok [Fs] (ns : List Int) : runD dPen [.d (.list (ns.map .int))] none = .ok .pen (some ⟨ns.take 63, 0, 0⟩) := by
  have key : ∀ l : List Int, intsD (l.map .int) = some l := fun l => by
    induction l with
    | nil => rfl
    | cons a l ih => simp [intsD, ih]
  have e : slcD (.list (ns.map .int)) none (some 63) = some (.list ((ns.take 63).map .int)) := by
    show some (PyData.list (cutD _ _ _)) = _
    unfold cutD
    have h0 : HT.sIx (ns.map PyData.int).length 0 none = 0 := rfl
    have h1 : HT.sIx (ns.map PyData.int).length (ns.map PyData.int).length (some 63) = min 63 ns.length := by
      simp [HT.sIx]
    rw [h0, h1, List.drop_zero, Nat.sub_zero, List.map_take]
    congr 2
    by_cases h : ns.length ≤ 63
    · rw [Nat.min_eq_right h, List.take_of_length_le (by simp), List.take_of_length_le (by simpa using h)]
    · rw [Nat.min_eq_left (by omega)]
  have key2 : intsD (List.take 63 (ns.map PyData.int)) = some (ns.take 63) := by rw [← List.map_take, key]
  simp [runD, dPen, evSs, evS, ev, evs, startD, slotOf, slotV, optM, e, key2]
theorem oneOf_ok [Fs] (hf : ∀ b : Int, 0 < b → b < 1073741824 → Ok (Fs.f "_law_draw" [.pen, .d (.int b)]) (Drawn b)) {xs : List PyData} (h1 : 0 < xs.length) (h2 : xs.length < 1073741824) : Ok (runD dOneOf [.pen, .d (.list xs)]) fun x => ∃ y ∈ xs, x = .d y := by
  intro p
  rw [run_app rfl]
  simp [dOneOf, startD, slotOf]
  refine Gd.bR (hf _ (by omega) (by omega) p) fun a g ⟨⟨v, ea, v1, v2⟩, p', eg⟩ => ?_
  subst ea eg
  obtain ⟨j, rfl⟩ := Int.eq_ofNat_of_zero_le v1
  have hj : j < xs.length := by omega
  simp [subD_list hj]
  exact .ok ⟨⟨_, List.getElem_mem hj, rfl⟩, .mk⟩
end Ld
/-! text k01V -/
set_option Elab.async false
set_option linter.all false
set_option maxRecDepth 100000
set_option maxHeartbeats 1000000
namespace Lk01
open PySem PySem.Spec L2 Ld
open PyProof.Rows hiding St
section
variable {k : Nat} {g : G}
theorem s_fresh (hk : 1 ≤ k) (p : Pen) : Gd (Phi defs k "_law_fresh" [.pen] (some p)) fun x g => IsI x ∧ HasPen g := by
  obtain ⟨m, rfl⟩ : ∃ m, k = m + 1 := ⟨k - 1, by omega⟩
  rw [phi (d := dFresh) (by rfl)]
  exact @fresh_ok ⟨Phi defs m⟩ p
theorem s_draw (hk : 2 ≤ k) {b : Int} (h1 : 0 < b) (h2 : b < 1073741824) : Ok (Phi defs k "_law_draw" [.pen, .d (.int b)]) (Drawn b) := by
  obtain ⟨m, rfl⟩ : ∃ m, k = m + 1 := ⟨k - 1, by omega⟩
  rw [phi (d := dDraw) (by rfl)]
  exact @draw_ok ⟨Phi defs m⟩ (s_fresh (by omega)) b h1 h2
theorem s_one (hk : 3 ≤ k) {xs : List PyData} (h1 : 0 < xs.length) (h2 : xs.length < 1073741824) : Ok (Phi defs k "_law_one_of" [.pen, .d (.list xs)]) fun x => ∃ y ∈ xs, x = .d y := by
  obtain ⟨m, rfl⟩ : ∃ m, k = m + 1 := ⟨k - 1, by omega⟩
  rw [phi (d := dOneOf) (by rfl)]
  exact @oneOf_ok ⟨Phi defs m⟩ (fun b h1 h2 => s_draw (by omega) h1 h2) xs h1 h2
/-! ### kinds, facts -/
def K8 : List (List Int) := [[1, 1], [2], [1, 2], [2, 2], [2, 1, 0], [1, 1, 1], [1, 0, 1, 2, 1], [0, 0, 2, 1, 0, 1]]
theorem s_kinds (hk : 4 ≤ k) : Ok (Phi defs k "_law_drawn_kinds" [.pen]) fun x => ∃ ks ∈ K8, x = .d (kD ks) := by
  obtain ⟨m, rfl, e⟩ := lk (k := k) (x := "_law_drawn_kinds") (d := d__law_drawn_kinds) (by rfl) (by omega)
  intro p
  rw [e _ _ rfl]
  simp [d__law_drawn_kinds, startD, slotOf]
  refine Gd.bR (s_one (k := m) (by omega) (by simp) (by simp) p) fun a g ⟨⟨y, hy, ea⟩, hp⟩ => ?_
  subst ea
  refine .ok ⟨?_, hp⟩
  have : y ∈ K8.map kD := hy
  obtain ⟨ks, h1, h2⟩ := List.mem_map.mp this
  exact ⟨ks, h1, by rw [h2]⟩
theorem K8_ok : ∀ ks ∈ K8, 0 < ks.length ∧ ks.length ≤ 6 ∧ ∀ x ∈ ks, 0 ≤ x ∧ x ≤ 2 := by decide
theorem kAt_ok {ks : List Int} (h : ks ∈ K8) {i : Int} (h1 : 0 ≤ i) (h2 : i < ks.length) : 0 ≤ kAt ks i ∧ kAt ks i ≤ 2 := by
  obtain ⟨_, _, h3⟩ := K8_ok ks h
  obtain ⟨j, rfl⟩ := Int.eq_ofNat_of_zero_le h1
  have hj : j < ks.length := by omega
  unfold kAt
  rw [Int.toNat_natCast, List.getD_eq_getElem?_getD, List.getElem?_eq_getElem hj]
  exact h3 _ (List.getElem_mem hj)
theorem s_fact (hk : 4 ≤ k) {ks : List Int} (hks : ks ∈ K8) : Ok (Phi defs k "_law_drawn_fact" [.pen, .d (kD ks)]) fun x => ∃ f, x = .d f ∧ isFact ks f = true := by
  obtain ⟨m, rfl, e⟩ := lk (k := k) (x := "_law_drawn_fact") (d := d__law_drawn_fact) (by rfl) (by omega)
  intro p
  rw [e _ _ rfl]
  obtain ⟨l1, l2, l3⟩ := K8_ok ks hks
  simp [d__law_drawn_fact, startD, slotOf, kD]
  refine Gd.bR (s_draw (k := m) (by omega) (b := (ks.length : Int)) (by omega) (by omega) p) fun a g ⟨⟨i, ea, i1, i2⟩, p', eg⟩ => ?_
  subst ea eg
  have hs := sub_kinds (ks := ks) i1 (by omega)
  unfold kD at hs
  obtain ⟨q1, q2⟩ := kAt_ok hks i1 i2
  simp
  rw [hs]
  simp
  rw [rngD_one (by omega) (by omega)]
  simp only [ofO_some, bR_ok]
  refine Gd.bR (P := fun ys g => (Paired (fun d y => ∃ t : Int, y = .int t ∧ 0 ≤ t ∧ t ≤ 29) (rangeD 0 (kAt ks i).toNat) ys) ∧ HasPen g) ?_ fun ys g ⟨hys, p2, eg⟩ => ?_
  · refine Ok.noX (Ok.loopC (fun d hd p => ?_)) _
    simp
    refine Gd.bR (s_one (k := m) (by omega) (by simp) (by simp) p) fun a g ⟨⟨y, hy, ea⟩, hp⟩ => ?_
    subst ea
    simp
    refine .ok ⟨⟨y, rfl, ?_⟩, hp⟩
    simp at hy
    rcases hy with rfl | rfl | rfl | rfl | rfl
    · exact ⟨0, rfl, by omega, by omega⟩
    · exact ⟨1, rfl, by omega, by omega⟩
    · exact ⟨3, rfl, by omega, by omega⟩
    · exact ⟨5, rfl, by omega, by omega⟩
    · exact ⟨28, rfl, by omega, by omega⟩
  · subst eg
    show Gd (Res.ok _ _) _
    refine .ok ⟨⟨_, rfl, ?_⟩, .mk⟩
    have hlen : (ys.length : Int) = kAt ks i := by
      have := Paired.length hys
      rw [← this, rangeD_map, List.length_map, rangeI_len]
      omega
    have hall : ys.all (fun t => whole t 0 29) = true := by
      rw [List.all_eq_true]
      intro y hy
      have : ∀ {ds ys : List PyData}, Paired (fun d y => ∃ t : Int, y = .int t ∧ 0 ≤ t ∧ t ≤ 29) ds ys → ∀ y ∈ ys, whole y 0 29 = true := by
        intro ds ys h
        induction h with
        | nil => exact fun y hy => by cases hy
        | cons a _ ih =>
          intro y hy
          rcases List.mem_cons.mp hy with rfl | hy
          · obtain ⟨t, rfl, h1, h2⟩ := a
            simp [whole, h1, h2]
          · exact ih y hy
      exact this hys y hy
    simp only [isFact]
    rw [hall, decide_eq_true hlen]
    simp [whole]
    omega
theorem fact_alike {ks : List Int} {a b : PyData} (ha : isFact ks a = true) (hb : isFact ks b = true) : PySem.W.alike a b = true := by
  obtain ⟨i, ts, rfl, _⟩ := fact_int ha
  obtain ⟨j, us, rfl, _⟩ := fact_int hb
  simp [PySem.W.alike, PySem.W.alikeAll, alike_ints]
def Facts (ks : List Int) (x : DV) : Prop := ∃ fs : List PyData, x = .d (.tuple fs) ∧ fs.length ≤ 6 ∧ ∀ f ∈ fs, isFact ks f = true
theorem s_facts (hk : 5 ≤ k) {ks : List Int} (hks : ks ∈ K8) : Ok (Phi defs k "_law_drawn_facts" [.pen, .d (kD ks), .d (.int 6)]) (Facts ks) := by
  obtain ⟨m, rfl, e⟩ := lk (k := k) (x := "_law_drawn_facts") (d := d__law_drawn_facts) (by rfl) (by omega)
  intro p
  rw [e _ _ rfl]
  simp [d__law_drawn_facts, startD, slotOf]
  refine Gd.bR (s_draw (k := m) (by omega) (b := 7) (by omega) (by omega) p) fun a g ⟨⟨i, ea, i1, i2⟩, p', eg⟩ => ?_
  subst ea eg
  simp
  rw [rngD_one (by omega) (by omega)]
  simp only [ofO_some, bR_ok]
  refine Gd.bR (P := fun ys g => (Paired (fun d y => isFact ks y = true) (rangeD 0 i.toNat) ys) ∧ HasPen g) ?_ fun ys g ⟨hys, p2, eg⟩ => ?_
  · refine Ok.noX (Ok.loopC (fun d hd p => ?_)) _
    simp
    refine Gd.bR (s_fact (k := m) (by omega) hks p) fun a g ⟨⟨y, ea, hy⟩, hp⟩ => ?_
    subst ea
    simp
    exact .ok ⟨⟨y, rfl, hy⟩, hp⟩
  · subst eg
    have hlen : ys.length ≤ 6 := by
      have := Paired.length hys
      rw [rangeD_map, List.length_map, rangeI_len] at this
      omega
    have hall : ∀ y ∈ ys, isFact ks y = true := by
      have : ∀ {ds ys : List PyData}, Paired (fun d y => isFact ks y = true) ds ys → ∀ y ∈ ys, isFact ks y = true := by
        intro ds ys h
        induction h with
        | nil => exact fun y hy => by cases hy
        | cons a _ ih =>
          intro y hy
          rcases List.mem_cons.mp hy with rfl | hy
          · exact a
          · exact ih y hy
      exact this hys
    have es := ssetD_ok (ds := ys) (fun d hd => fact_key (hall d hd)) (by omega) (fun d hd e he => fact_alike (hall d hd) (hall e he)) (fun d hd e => by have := hall d hd; rw [e] at this; simp [isFact] at this) fun d hd => by have := fact_depth (hall d hd); omega
    rw [es]
    show Gd (Res.ok _ _) _
    refine .ok ⟨⟨_, rfl, ?_, fun f hf => hall f (mem_dedup.mp (mem_isort.mp hf))⟩, .mk⟩
    rw [isort_len]
    exact Nat.le_trans (dedup_len ys) hlen
/-! ### odd values -/
def ints41 : Int := 100000000000000000000000000000000000000000
def oddL : List PyData := [.none, .bool true, .bool false, .int (-1), .int 0, .int 1, .int 2, .int 3, .int 5, .int 30, .str "", .str "0", .str "leads", .str "within", .tuple [], .list [], .dict [], .tuple [.int 0], .tuple [.int 0, .int 1], .tuple [.tuple []], .list [.int 0]] ++ [.int ints41, .tuple [.int 0, .tuple [.int 1]], .tuple [.int 0, .tuple []], .tuple [.tuple [.int 0, .tuple [.int (-1)]], .tuple [], .tuple []], .tuple [.tuple [.int 1], .tuple []], .tuple [.int 1, .list [.int 3]], .int (-2)]
def szB (d n : Nat) (v : PyData) : Bool := v.showable && (decide (v.depth ≤ d) && decide (wt v ≤ n))
theorem szB_ok {d n : Nat} {v : PyData} (h : szB d n v = true) : Sz d n v := by
  unfold szB at h
  rw [Bool.and_eq_true, Bool.and_eq_true, decide_eq_true_eq, decide_eq_true_eq] at h
  exact h
theorem odd_sz : ∀ y ∈ oddL, Sz 5 100 y := by
  have h : oddL.all (szB 5 100) = true := by decide +kernel
  exact fun y hy => szB_ok (List.all_eq_true.mp h y hy)
theorem pow41 : binD .pow (.int 10) (.int 41) = some (.int ints41) := by decide +kernel
theorem s_odd (hk : 4 ≤ k) : Ok (Phi defs k "_law_odd" [.pen]) fun x => ∃ y ∈ oddL, x = .d y := by
  obtain ⟨m, rfl, e⟩ := lk (k := k) (x := "_law_odd") (d := d__law_odd) (by rfl) (by omega)
  intro p
  rw [e _ _ rfl]
  simp [d__law_odd, startD, slotOf]
  rw [pow41]
  simp
  rw [binD_addL (by simp [maxLen])]
  simp
  refine Gd.bR (s_one (k := m) (by omega) (by simp) (by simp) p) fun a g ⟨⟨y, hy, ea⟩, hp⟩ => ?_
  subst ea
  refine .ok ⟨⟨y, hy, rfl⟩, hp⟩
end
end Lk01
/-! text k01B -/
set_option Elab.async false
set_option linter.all false
set_option maxRecDepth 100000
set_option maxHeartbeats 1000000
namespace Lk01
open PySem PySem.Spec L2 Ld
open PyProof.Rows hiding St
mutual
/-- whole numbers from -1 to 30, tuples of such -/
def inp : PyData → Bool
  | .int i => decide (-1 ≤ i) && decide (i ≤ 30)
  | .tuple xs => inps xs
  | _ => false
def inps : List PyData → Bool
  | [] => true
  | x :: r => inp x && inps r
end
theorem inps_iff : ∀ {l : List PyData}, inps l = true ↔ ∀ x ∈ l, inp x = true
  | [] => by simp [inps]
  | a :: l => by simp [inps, inps_iff (l := l)]
theorem small {i : Int} (h1 : -40 ≤ i) (h2 : i ≤ 40) : Sz 0 5 (.int i) := by
  have h : (rangeI (-40) 81).all (fun i => szB 0 5 (.int i)) = true := by decide +kernel
  exact szB_ok (List.all_eq_true.mp h i (mem_rangeI.mpr (by omega)))
mutual
theorem inp_ok : ∀ v : PyData, inp v = true → v.showable = true ∧ noB v = true
  | .int i, h => by
    simp [inp] at h
    exact ⟨(small (by omega) (by omega)).1, rfl⟩
  | .tuple xs, h => by
    simp [inp] at h
    have := inps_ok xs h
    simp only [PyData.showable, noB]
    exact this
  | .none, h => by simp [inp] at h
  | .bool _, h => by simp [inp] at h
  | .str _, h => by simp [inp] at h
  | .list _, h => by simp [inp] at h
  | .dict _, h => by simp [inp] at h
theorem inps_ok : ∀ v : List PyData, inps v = true → PyData.showableAll v = true ∧ noBs v = true
  | [], _ => by simp [PyData.showableAll, noBs]
  | x :: r, h => by
    simp [inps] at h
    have h1 := inp_ok x h.1
    have h2 := inps_ok r h.2
    simp [PyData.showableAll, noBs, h1, h2]
end
theorem slcT (xs : List PyData) (l h : Option Int) : slcD (.tuple xs) l h = some (.tuple (Ld.cutD xs l h)) := rfl
theorem revT (xs : List PyData) : revD (.tuple xs) = some (.tuple xs.reverse) := rfl
theorem cut_wts (xs : List PyData) (l h : Option Int) : wts (Ld.cutD xs l h) ≤ wts xs := Nat.le_trans (wts_take _ _) (wts_drop _ _)
theorem cut_mem {xs : List PyData} {l h : Option Int} {x : PyData} (hx : x ∈ Ld.cutD xs l h) : x ∈ xs := List.mem_of_mem_drop (List.mem_of_mem_take hx)
theorem cut_len (xs : List PyData) (l h : Option Int) : (Ld.cutD xs l h).length ≤ xs.length := by
  unfold Ld.cutD
  rw [List.length_take, List.length_drop]
  omega
/-- what comes of bending v -/
def Bent (v : PyData) (x : DV) : Prop := ∃ y, x = .d y ∧ Sz (v.depth + 6) (2 * wt v + 110) y
section
variable {k : Nat} {g : G}
@[simp] theorem isi_ti (i : Int) : isiD .tuple (.int i) = false := rfl
@[simp] theorem isi_it (xs : List PyData) : isiD .int (.tuple xs) = false := rfl
theorem bent_int (hk : 6 ≤ k) {i : Int} (h1 : -1 ≤ i) (h2 : i ≤ 30) (n : Int) : Ok (Phi defs k "_law_bent" [.pen, .d (.int i), .d (.int n)]) (Bent (.int i)) := by
  obtain ⟨m, rfl, e⟩ := lk (k := k) (x := "_law_bent") (d := d__law_bent) (by rfl) (by omega)
  intro p
  rw [e _ _ rfl]
  simp [d__law_bent, startD, slotOf]
  refine Gd.bR (s_draw (k := m) (by omega) (b := 8) (by omega) (by omega) p) fun a g ⟨⟨o, ea, o1, o2⟩, p', eg⟩ => ?_
  subst ea eg
  simp
  by_cases ho : o < 6
  · obtain ⟨j, rfl⟩ := Int.eq_ofNat_of_zero_le o1
    have hj : j < 6 := by omega
    simp [ho]
    rw [subD_list (by simpa using hj)]
    simp
    refine .ok ⟨⟨_, rfl, ?_⟩, .mk⟩
    have hall : ∀ y ∈ [PyData.int (i + 1), .int (i - 1), .bool (decide (i = 1)), .int 0, .int (-i), .int (i + 1)], Sz 0 5 y := by
      intro y hy
      simp only [List.mem_cons, List.not_mem_nil, or_false] at hy
      rcases hy with rfl | rfl | rfl | rfl | rfl | rfl
      · exact small (by omega) (by omega)
      · exact small (by omega) (by omega)
      · exact ⟨rfl, by simp [PyData.depth], by simp [wt]⟩
      · exact small (by omega) (by omega)
      · exact small (by omega) (by omega)
      · exact small (by omega) (by omega)
    exact (hall _ (List.getElem_mem _)).le (by omega) (by omega)
  · simp [ho]
    refine Gd.bR (s_odd (k := m) (by omega) _) fun a g ⟨⟨y, hy, ea⟩, hp⟩ => ?_
    subst ea
    exact .ok ⟨⟨y, rfl, (odd_sz y hy).le (by omega) (by omega)⟩, hp⟩
theorem wts_set {xs : List PyData} {j : Nat} {y : PyData} (hj : j < xs.length) : wts (xs.take j ++ [y] ++ xs.drop (j + 1)) + wt xs[j] = wts xs + wt y := by
  have e : xs = xs.take j ++ (xs[j] :: xs.drop (j + 1)) := by rw [← List.drop_eq_getElem_cons hj, List.take_append_drop]
  have h : wts xs = wts (xs.take j) + (wt xs[j] + 2 + wts (xs.drop (j + 1))) := by
    have := congrArg wts e
    rw [wts_append] at this
    simpa [wts] using this
  rw [wts_append, wts_append]
  simp [wts]
  omega
def bOpt : Ss := (.cons (.asg (.nm 3) (.call "_law_draw" (.cons (.var 0) (.cons (.cst (.int (8))) .nil)))) (.cons (.ife (.and (.isi (.var 1) .int) (.and (.not (.isi (.var 1) .bool)) (.cmp .lt (.var 3) (.cst (.int (6)))))) (.cons (.ret (.sub (.lst (.cons (.bin .add (.var 1) (.cst (.int (1)))) (.cons (.bin .sub (.var 1) (.cst (.int (1)))) (.cons (.cmp .eq (.var 1) (.cst (.int (1)))) (.cons (.cst (.int (0))) (.cons (.neg (.var 1)) (.cons (.bin .add (.var 1) (.cst (.int (1)))) .nil))))))) (.var 3))) .nil) .nil) (.cons (.ife (.and (.isi (.var 1) .tuple) (.cmp .lt (.var 3) (.cst (.int (6))))) (.cons (.ret (.sub (.lst (.cons (.slc (.var 1) (.cst (.int (1))) .omit) (.cons (.slc (.var 1) .omit (.neg (.cst (.int (1))))) (.cons (.bin .add (.var 1) (.slc (.var 1) .omit (.cst (.int (1))))) (.cons (.rev (.var 1)) (.cons (.bi .list (.cons (.var 1) .nil)) (.cons (.bin .add (.var 1) (.tup (.cons (.cst (.int (0))) .nil))) .nil))))))) (.var 3))) .nil) .nil) (.cons (.ret (.call "_law_odd" (.cons (.var 0) .nil))) .nil))))
def CondB (c : Prop) (x : DV) : Prop := ∃ b : Bool, x = .d (.bool b) ∧ (b = false → c)
/-- it returns what comes of bending -/
def RtBent (v : PyData) (fl : Fl) : Prop := ∃ x, fl = .rt x ∧ Bent v x
theorem tup_opt (hk : 5 ≤ k) {xs : List PyData} (hv : inps xs = true) (hw : wts xs ≤ 10000) (n : Int) (p : Pen) : Gd (@evSs ⟨Phi defs k⟩ bOpt [] [some .pen, some (.val (.tuple xs)), some (.val (.int n)), none, none, none] (some p)) fun fl g => RtBent (.tuple xs) fl ∧ HasPen g := by
  have hl := len_wts xs
  have hi := inps_iff.mp hv
  simp [bOpt]
  refine Gd.bR (s_draw (k := k) (by omega) (b := 8) (by omega) (by omega) p) fun a g ⟨⟨o, ea, o1, o2⟩, p', eg⟩ => ?_
  subst ea eg
  simp
  by_cases ho : o < 6
  · obtain ⟨j, rfl⟩ := Int.eq_ofNat_of_zero_le o1
    have hj : j < 6 := by omega
    have c := cut_len xs none (some 1)
    have e1 : binD .add (.tuple xs) (.tuple (Ld.cutD xs none (some 1))) = some (.tuple (xs ++ Ld.cutD xs none (some 1))) := binD_addT (by show _ ≤ 10000000; omega)
    have e2 : binD .add (.tuple xs) (.tuple [.int 0]) = some (.tuple (xs ++ [.int 0])) := binD_addT (by rw [List.length_singleton]; show _ ≤ 10000000; omega)
    simp [ho, slcT, e1, e2, revT]
    rw [subD_list (by simpa using hj)]
    have hall : ∀ y ∈ [PyData.tuple (Ld.cutD xs (some 1) none), .tuple (Ld.cutD xs none (some (-1))), .tuple (xs ++ Ld.cutD xs none (some 1)), .tuple xs.reverse, .list xs, .tuple (xs ++ [.int 0])], Sz ((PyData.tuple xs).depth + 6) (2 * wt (.tuple xs) + 110) y := by
      have hd : ∀ x ∈ xs, x.showable = true ∧ x.depth ≤ (PyData.tuple xs).depth + 5 := fun x hx => by
        refine ⟨(inp_ok x (hi x hx)).1, ?_⟩
        simp only [PyData.depth]
        have := depthAll_iff.mp (Nat.le_refl (PyData.depthAll xs)) x hx
        omega
      have hwt : wt (.tuple xs) = wts xs + 3 := by simp only [wt]
      have h0 : wt (.int 0) ≤ 5 := (small (by omega) (by omega)).2.2
      intro y hy
      simp only [List.mem_cons, List.not_mem_nil, or_false] at hy
      rcases hy with rfl | rfl | rfl | rfl | rfl | rfl
      · exact (Sz.tuple (fun x hx => hd x (cut_mem hx)) (cut_wts _ _ _)).le (Nat.le_refl _) (by omega)
      · exact (Sz.tuple (fun x hx => hd x (cut_mem hx)) (cut_wts _ _ _)).le (Nat.le_refl _) (by omega)
      · refine (Sz.tuple (n := 2 * wts xs) (fun x hx => ?_) ?_).le (Nat.le_refl _) (by omega)
        · rcases List.mem_append.mp hx with h | h
          · exact hd x h
          · exact hd x (cut_mem h)
        · have := cut_wts xs none (some 1)
          rw [wts_append]
          omega
      · exact (Sz.tuple (fun x hx => hd x (List.mem_reverse.mp hx)) (Nat.le_of_eq (wts_reverse xs))).le (Nat.le_refl _) (by omega)
      · exact (Sz.list hd (Nat.le_refl _)).le (Nat.le_refl _) (by omega)
      · refine (Sz.tuple (n := wts xs + 7) (fun x hx => ?_) ?_).le (Nat.le_refl _) (by omega)
        · rcases List.mem_append.mp hx with h | h
          · exact hd x h
          · rw [List.mem_singleton] at h
            subst h
            exact ⟨rfl, by simp [PyData.depth]⟩
        · rw [wts_append]
          simp only [wts]
          omega
    refine .ok ⟨⟨_, rfl, _, rfl, hall _ (List.getElem_mem _)⟩, .mk⟩
  · simp [ho]
    refine Gd.bR (s_odd (k := k) (by omega) _) fun a g ⟨⟨y, hy, ea⟩, hp⟩ => ?_
    subst ea
    exact .ok ⟨⟨_, rfl, y, rfl, (odd_sz y hy).le (by omega) (by omega)⟩, hp⟩
theorem s_bent (n : Nat) : ∀ (k : Nat), n + 6 ≤ k → ∀ v : PyData, inp v = true → wt v ≤ 10000 → Ok (Phi defs k "_law_bent" [.pen, .d v, .d (.int n)]) (Bent v) := by
  induction n with
  | zero =>
    intro k hk v hv hw
    by_cases ht : ∃ xs, v = .tuple xs
    rotate_left
    · cases v <;> first | (simp [inp] at hv; done) | exact absurd ⟨_, rfl⟩ ht | skip
      rename_i i
      simp [inp] at hv
      exact bent_int (by omega) hv.1 hv.2 _
    obtain ⟨xs, rfl⟩ := ht
    obtain ⟨m, rfl, e⟩ := lk (k := k) (x := "_law_bent") (d := d__law_bent) (by rfl) (by omega)
    intro p
    rw [e _ _ rfl]
    have hi : inps xs = true := by simpa [inp] using hv
    obtain ⟨hsh, hnb⟩ := inps_ok xs hi
    have hws : wts xs ≤ 10000 := by simp only [wt] at hw; omega
    have heq : eqD (.tuple xs) (.tuple []) = some xs.isEmpty := eqD_nilT (noBs_plain xs hnb)
    have hop := tup_opt (k := m) (by omega) hi hws 0 p
    simp [d__law_bent, startD, slotOf, heq]
    refine Gd.bR (P := fun x g => x = .d (.bool true) ∧ g = some p) ?_ fun a g ⟨ea, eg⟩ => ?_
    · cases xs.isEmpty with
      | true => exact .ok ⟨rfl, rfl⟩
      | false =>
        simp
        exact .ok ⟨rfl, rfl⟩
    · subst ea eg
      simp only [kTst_d, truthO_bool, ofO_some, bR_ok, kIf_t]
      refine Gd.bR hop fun a g ⟨⟨x, ea, hx⟩, hp⟩ => ?_
      subst ea
      exact .ok ⟨hx, hp⟩
  | succ n ih =>
    intro k hk v hv hw
    by_cases ht : ∃ xs, v = .tuple xs
    rotate_left
    · cases v <;> first | (simp [inp] at hv; done) | exact absurd ⟨_, rfl⟩ ht | skip
      rename_i i
      simp [inp] at hv
      exact bent_int (by omega) hv.1 hv.2 _
    obtain ⟨xs, rfl⟩ := ht
    obtain ⟨m, rfl, e⟩ := lk (k := k) (x := "_law_bent") (d := d__law_bent) (by rfl) (by omega)
    intro p
    rw [e _ _ rfl]
    have hi : inps xs = true := by simpa [inp] using hv
    obtain ⟨hsh, hnb⟩ := inps_ok xs hi
    have hws : wts xs ≤ 10000 := by simp only [wt] at hw; omega
    have heq : eqD (.tuple xs) (.tuple []) = some xs.isEmpty := eqD_nilT (noBs_plain xs hnb)
    have hl := len_wts xs
    simp [d__law_bent, startD, slotOf, heq]
    refine Gd.bR (P := fun x g => CondB (xs ≠ []) x ∧ HasPen g) ?_ fun a g ⟨⟨b, ea, hb⟩, p1, eg⟩ => ?_
    · cases hE : xs.isEmpty with
      | true => exact .ok ⟨⟨true, rfl, fun h => by cases h⟩, .mk⟩
      | false =>
        have hne : xs ≠ [] := fun h => by rw [h] at hE; cases hE
        have h1 : ¬ ((n : Int) + 1 = 0) := by omega
        simp [h1]
        refine Gd.bR (s_draw (k := m) (by omega) (b := 6) (by omega) (by omega) _) fun a g ⟨⟨o, ea, o1, o2⟩, p', eg⟩ => ?_
        subst ea eg
        simp
        exact .ok ⟨⟨_, rfl, fun _ => hne⟩, .mk⟩
    · subst ea eg
      cases b with
      | true =>
        simp only [kTst_d, truthO_bool, ofO_some, bR_ok, kIf_t]
        refine Gd.bR (tup_opt (k := m) (by omega) hi hws _ p1) fun a g ⟨⟨x, ea, hx⟩, hp⟩ => ?_
        subst ea
        exact .ok ⟨hx, hp⟩
      | false =>
        have hne := hb rfl
        have hpos : 0 < xs.length := List.length_pos_iff.mpr hne
        simp
        refine Gd.bR (s_draw (k := m) (by omega) (b := (xs.length : Int)) (by omega) (by omega) _) fun a g ⟨⟨o, ea, o1, o2⟩, p', eg⟩ => ?_
        subst ea eg
        obtain ⟨j, rfl⟩ := Int.eq_ofNat_of_zero_le o1
        have hj : j < xs.length := by omega
        have hjm : xs[j] ∈ xs := List.getElem_mem hj
        have hwj := wt_mem hjm
        simp
        rw [subD_tuple hj]
        simp
        refine Gd.bR (ih m (by omega) xs[j] (inps_iff.mp hi _ hjm) (by omega) _) fun a g ⟨⟨y, ea, hy⟩, p2, eg⟩ => ?_
        subst ea eg
        have e1 : slcD (.tuple xs) none (some (j : Int)) = some (.tuple (xs.take j)) := slc_to (by omega)
        have e2 : slcD (.tuple xs) (some ((j : Int) + 1)) none = some (.tuple (xs.drop (j + 1))) := slc_from (n := j + 1) (by omega)
        have e3 : binD .add (.tuple (xs.take j)) (.tuple [y]) = some (.tuple (xs.take j ++ [y])) := binD_addT (by rw [List.length_take, List.length_singleton]; show _ ≤ 10000000; omega)
        have e4 : binD .add (.tuple (xs.take j ++ [y])) (.tuple (xs.drop (j + 1))) = some (.tuple (xs.take j ++ [y] ++ xs.drop (j + 1))) := binD_addT (by rw [List.length_append, List.length_take, List.length_singleton, List.length_drop]; show _ ≤ 10000000; omega)
        simp [e1, e3]
        rw [e2]
        simp
        rw [e4]
        refine .ok ⟨⟨_, rfl, ?_⟩, .mk⟩
        have hdp : ∀ x ∈ xs, x.showable = true ∧ x.depth ≤ (PyData.tuple xs).depth + 5 := fun x hx => by
          refine ⟨(inp_ok x (inps_iff.mp hi x hx)).1, ?_⟩
          simp only [PyData.depth]
          have := depthAll_iff.mp (Nat.le_refl (PyData.depthAll xs)) x hx
          omega
        have hdj : xs[j].depth + 1 ≤ (PyData.tuple xs).depth := by
          simp only [PyData.depth]
          have := depthAll_iff.mp (Nat.le_refl (PyData.depthAll xs)) _ hjm
          omega
        obtain ⟨y1, y2, y3⟩ := hy
        have hwt : wt (.tuple xs) = wts xs + 3 := by simp only [wt]
        have hs := wts_set (y := y) hj
        refine (Sz.tuple (n := wts (xs.take j ++ [y] ++ xs.drop (j + 1))) (fun x hx => ?_) (Nat.le_refl _)).le (Nat.le_refl _) (by omega)
        rcases List.mem_append.mp hx with h | h
        · rcases List.mem_append.mp h with h | h
          · exact hdp x (List.mem_of_mem_take h)
          · rw [List.mem_singleton] at h
            subst h
            exact ⟨y1, by omega⟩
        · exact hdp x (List.mem_of_mem_drop h)
end
end Lk01
/-! text k01L -/
set_option Elab.async false
set_option linter.all false
set_option maxRecDepth 100000
set_option maxHeartbeats 1000000
namespace Lk01
open PySem PySem.Spec L2 Ld
open PyProof.Rows hiding St
theorem Gd_turns {f : PyData → Env' → M Fl} {I : Env' → Prop} {g : G} : ∀ {ds : List PyData} {δ : Env'}, I δ → (∀ d ∈ ds, ∀ δ, I δ → Gd (f d δ g) fun fl g' => NxI I fl ∧ g' = g) → Gd (turns f ds δ g) fun fl g' => NxI I fl ∧ g' = g
  | [], δ, h, _ => .ok ⟨.mk h, rfl⟩
  | d :: ds, δ, h, hf => by
    rw [turnsC]
    refine Gd.bR (hf d (.head _) δ h) fun a g' ⟨⟨δ', ea, h'⟩, eg⟩ => ?_
    subst ea eg
    exact Gd_turns h' fun x hx => hf x (.tail _ hx)
section
variable {k : Nat} {g : G}
theorem scan_lt {ks : List Int} {xs : List PyData} {n : Nat} : ∀ {rest : List PyData} {i : Nat}, scan ks xs i rest = some n → n < i + rest.length
  | [], i, h => by cases h
  | x :: r, i, h => by
    simp only [scan] at h
    rw [List.length_cons]
    split at h
    · cases h
      omega
    · have := scan_lt h
      omega
theorem nat_sz {n : Nat} (h : n < 100000) : Sz 0 10 (.int n) := by
  have ha : ((n : Int)).natAbs < 10 ^ 5 := by simpa using h
  have h1 := int_text_length_le10 (a := (n : Int)) (k := 5) (by decide) ha
  refine ⟨?_, by simp [PyData.depth], ?_⟩
  · simp only [PyData.showable]
    refine decide_eq_true ?_
    have h2 : (n : Int).natAbs = n := Int.natAbs_natCast n
    rw [h2]
    by_cases h0 : n = 0
    · subst h0; decide
    · have h3 : n < 2 ^ 17 := by omega
      have := (Nat.log2_lt h0).mpr h3
      omega
  · simp only [wt]
    rw [PyData.shown_int]
    rw [show ((toString (n : Int) : String) : Str) = Str.ofString (toString (n : Int)) from rfl, PySem.ofString_length]
    omega
theorem due_sz {ks : List Int} {v : PyData} (hv : Sz 40 40000 v) : ∃ s, reprD (dueOf ks v) = some (.str s) := by
  refine ⟨_, Sz.repr (d := 41) (n := 50000) ?_ (by omega) (by omega)⟩
  obtain ⟨h1, h2, h3⟩ := hv
  have hs : ∀ x : Str, (x = "told" ∨ x = "index") → Sz 0 10 (.str x) := fun x hx => by
    rcases hx with rfl | rfl <;> exact szB_ok (by decide +kernel)
  cases hf : faultOf ks v 5400 with
  | none =>
    rw [due_none hf]
    have h0 := hs "told" (.inl rfl)
    refine (Sz.tuple (d := 40) (n := 40100) (fun x hx => ?_) ?_).le (by omega) (by omega)
    · simp only [List.mem_cons, List.not_mem_nil, or_false] at hx
      rcases hx with rfl | rfl
      · exact ⟨h0.1, by have := h0.2.1; omega⟩
      · exact ⟨h1, h2⟩
    · have := h0.2.2
      simp only [wts]
      omega
  | some o =>
    cases o with
    | none =>
      rw [due_all hf]
      exact (szB_ok (d := 5) (n := 100) (by decide +kernel)).le (by omega) (by omega)
    | some i =>
      rw [due_at hf]
      have hi : i < 100000 := by
        cases v <;> try (cases hf; done)
        rename_i xs
        have e : faultOf ks (.tuple xs) 5400 = if (xs.length : Int) > 5400 then some none else (scan ks xs 0 xs).map some := rfl
        rw [e] at hf
        split at hf
        · cases hf
        · cases hs2 : scan ks xs 0 xs with
          | none => rw [hs2] at hf; cases hf
          | some n =>
            rw [hs2] at hf
            cases hf
            have := scan_lt hs2
            omega
      have h0 := hs "index" (.inr rfl)
      have h5 := nat_sz hi
      refine (Sz.tuple (d := 40) (n := 40100) (fun x hx => ?_) ?_).le (by omega) (by omega)
      · simp only [List.mem_cons, List.not_mem_nil, or_false] at hx
        rcases hx with rfl | rfl
        · exact ⟨h0.1, by have := h0.2.1; omega⟩
        · exact ⟨h5.1, by have := h5.2.1; omega⟩
      · have := h0.2.2
        have := h5.2.2
        simp only [wts]
        omega
/-- the slots within a lap -/
def LwS (s0 s2 : Option Slot) (ks : List Int) (fs os : List PyData) (s6 s7 : Option Slot) (δ : Env') : Prop := ∃ s8 s9 s10, δ = [s0, some .pen, s2, some (.val (kD ks)), some (.val (.tuple fs)), some (.val (.tuple os)), s6, s7, s8, s9, s10]
def bFact : Ss := (.cons (.ife (.cmp .ne (.bi .repr (.cons (.call "is_fact" (.cons (.var 3) (.cons (.var 10) .nil))) .nil)) (.bi .repr (.cons (.call "_law_is_right" (.cons (.var 3) (.cons (.var 10) .nil))) .nil))) (.cons (.ret (.cst (.bool false))) .nil) .nil) .nil)
theorem reprB (b : Bool) : ∃ s, reprD (.bool b) = some (.str s) := by
  cases b
  · exact ⟨_, (szB_ok (d := 0) (n := 5) (by decide +kernel)).repr (by omega) (by omega)⟩
  · exact ⟨_, (szB_ok (d := 0) (n := 5) (by decide +kernel)).repr (by omega) (by omega)⟩
theorem fact_turn (hk : 4 ≤ k) {s0 s2 s6 s7 : Option Slot} {ks : List Int} {fs os : List PyData} (v w x : PyData) (s10 : Option Slot) :
    @fLoop ⟨Phi defs k⟩ (.nm 10) bFact x [s0, some .pen, s2, some (.val (kD ks)), some (.val (.tuple fs)), some (.val (.tuple os)), s6, s7, some (.val v), some (.val w), s10] g = .ok (.nx [s0, some .pen, s2, some (.val (kD ks)), some (.val (.tuple fs)), some (.val (.tuple os)), s6, s7, some (.val v), some (.val w), some (.val x)]) g := by
  obtain ⟨s, hs⟩ := reprB (isFact ks x)
  simp [bFact, s_is_fact (show 3 ≤ k by omega), s_is_right (show 3 ≤ k by omega), hs]
def VtI (v w : PyData) (s0 s2 : Option Slot) (ks : List Int) (fs os : List PyData) (s6 s7 : Option Slot) (δ : Env') : Prop := ∃ s10, δ = [s0, some .pen, s2, some (.val (kD ks)), some (.val (.tuple fs)), some (.val (.tuple os)), s6, s7, some (.val v), some (.val w), s10]
def bVal : Ss := (.cons (.asg (.nm 9) (.bi .repr (.cons (.var 8) .nil))) (.cons (.ife (.or (.cmp .ne (.bi .repr (.cons (.call "_law_told" (.cons (.var 3) (.cons (.var 8) .nil))) .nil)) (.bi .repr (.cons (.call "_law_due" (.cons (.var 3) (.cons (.var 8) .nil))) .nil))) (.cmp .ne (.bi .repr (.cons (.var 8) .nil)) (.var 9))) (.cons (.ret (.cst (.bool false))) .nil) .nil) (.cons (.loop (.nm 10) (.ife (.isi (.var 8) .tuple) (.bin .add (.slc (.bi .list (.cons (.var 8) .nil)) .omit (.cst (.int (4)))) (.lst (.cons (.var 8) .nil))) (.lst (.cons (.var 8) .nil))) bFact) .nil)))
theorem value_turn (hk : 7 ≤ k) {s0 s2 s6 s7 : Option Slot} {ks : List Int} {fs os : List PyData} {v : PyData} (hv : Sz 40 40000 v) {δ : Env'} (hδ : LwS s0 s2 ks fs os s6 s7 δ) : Gd (@fLoop ⟨Phi defs k⟩ (.nm 8) bVal v δ g) fun fl g' => NxI (LwS s0 s2 ks fs os s6 s7) fl ∧ g' = g := by
  obtain ⟨s8, s9, s10, rfl⟩ := hδ
  have h1 := hv.repr (by omega) (by omega)
  obtain ⟨s, h2⟩ := due_sz (ks := ks) hv
  have fin : ∀ xs : List PyData, Gd (turns (@fLoop ⟨Phi defs k⟩ (.nm 10) bFact) xs [s0, some .pen, s2, some (.val (kD ks)), some (.val (.tuple fs)), some (.val (.tuple os)), s6, s7, some (.val v), some (.val (.str v.shown)), s10] g) fun fl g' => NxI (VtI v (.str v.shown) s0 s2 ks fs os s6 s7) fl ∧ g' = g := fun xs =>
    Gd_turns ⟨s10, rfl⟩ fun d _ δ ⟨t, eδ⟩ => by
      subst eδ
      rw [fact_turn (by omega)]
      exact .ok ⟨.mk ⟨_, rfl⟩, rfl⟩
  simp [bVal, h1, s_told (show 6 ≤ k by omega), s_due (show 4 ≤ k by omega), h2]
  by_cases ht : ∃ xs, v = .tuple xs
  · obtain ⟨xs, rfl⟩ := ht
    have e1 : slcD (.list xs) none (some 4) = some (.list (Ld.cutD xs none (some 4))) := rfl
    have e2 : binD .add (.list (Ld.cutD xs none (some 4))) (.list [.tuple xs]) = some (.list (Ld.cutD xs none (some 4) ++ [.tuple xs])) := binD_addL (by
      have := len_wts xs
      have h3 := hv.2.2
      simp only [wt] at h3
      have := cut_len xs none (some 4)
      rw [List.length_singleton]
      show _ ≤ 10000000
      omega)
    simp [e1, e2]
    refine Gd.bR (fin _) fun a g' ⟨⟨δ', ea, s10', eδ⟩, eg⟩ => ?_
    subst ea eg eδ
    simp
    exact .ok ⟨.mk ⟨_, _, _, rfl⟩, rfl⟩
  · have h1 : isiD .tuple v = false := by cases v <;> first | rfl | exact absurd ⟨_, rfl⟩ ht
    simp [h1]
    refine Gd.bR (fin _) fun a g' ⟨⟨δ', ea, s10', eδ⟩, eg⟩ => ?_
    subst ea eg eδ
    simp
    exact .ok ⟨.mk ⟨_, _, _, rfl⟩, rfl⟩
def bLap : Ss := (.cons (.asg (.nm 3) (.call "_law_drawn_kinds" (.cons (.var 1) .nil))) (.cons (.asg (.tp (.cons (.nm 4) (.cons (.nm 5) .nil))) (.tup (.cons (.call "_law_drawn_facts" (.cons (.var 1) (.cons (.var 3) (.cons (.cst (.int (6))) .nil)))) (.cons (.call "_law_drawn_facts" (.cons (.var 1) (.cons (.var 3) (.cons (.cst (.int (6))) .nil)))) .nil)))) (.cons (.asg (.nm 6) (.lst (.cons (.var 4) (.cons (.rev (.var 4)) (.cons (.bin .add (.var 4) (.slc (.var 4) (.neg (.cst (.int (1)))) .omit)) (.cons (.bi .list (.cons (.var 4) .nil)) (.cons (.bin .add (.var 4) (.var 5)) (.cons (.call "_law_odd" (.cons (.var 1) .nil)) .nil)))))))) (.cons (.asg (.nm 6) (.bin .add (.var 6) (.lc (.call "_law_bent" (.cons (.var 1) (.cons (.var 4) (.cons (.var 7) .nil)))) (.nm 7) (.tup (.cons (.cst (.int (1))) (.cons (.cst (.int (2))) (.cons (.cst (.int (3))) (.cons (.cst (.int (3))) (.cons (.cst (.int (3))) .nil)))))) .omit))) (.cons (.loop (.nm 8) (.bin .add (.var 6) (.lst (.cons (.tup (.cons (.tup (.cons (.cst (.int (0))) (.cons (.bin .mul (.tup (.cons (.cst (.int (30))) .nil)) (.sub (.var 3) (.cst (.int (0))))) .nil))) .nil)) (.cons (.tup (.cons (.tup (.cons (.cst (.int (0))) (.cons (.bin .mul (.tup (.cons (.cst (.int (29))) .nil)) (.sub (.var 3) (.cst (.int (0))))) .nil))) .nil)) (.cons (.tup (.cons (.tup (.cons (.bi .len (.cons (.var 3) .nil)) (.cons (.tup .nil) .nil))) .nil)) .nil))))) (.cons (.asg (.nm 9) (.bi .repr (.cons (.var 8) .nil))) (.cons (.ife (.or (.cmp .ne (.bi .repr (.cons (.call "_law_told" (.cons (.var 3) (.cons (.var 8) .nil))) .nil)) (.bi .repr (.cons (.call "_law_due" (.cons (.var 3) (.cons (.var 8) .nil))) .nil))) (.cmp .ne (.bi .repr (.cons (.var 8) .nil)) (.var 9))) (.cons (.ret (.cst (.bool false))) .nil) .nil) (.cons (.loop (.nm 10) (.ife (.isi (.var 8) .tuple) (.bin .add (.slc (.bi .list (.cons (.var 8) .nil)) .omit (.cst (.int (4)))) (.lst (.cons (.var 8) .nil))) (.lst (.cons (.var 8) .nil))) (.cons (.ife (.cmp .ne (.bi .repr (.cons (.call "is_fact" (.cons (.var 3) (.cons (.var 10) .nil))) .nil)) (.bi .repr (.cons (.call "_law_is_right" (.cons (.var 3) (.cons (.var 10) .nil))) .nil))) (.cons (.ret (.cst (.bool false))) .nil) .nil) .nil)) .nil)))) (.cons (.ife (.cmp .ne (.bi .repr (.cons (.call "are_among" (.cons (.var 4) (.cons (.var 5) .nil))) .nil)) (.bi .repr (.cons (.cmp .eq (.lc (.cst (.int (1))) (.nm 10) (.var 4) (.cmp .notin (.var 10) (.var 5))) (.lst .nil)) .nil))) (.cons (.ret (.cst (.bool false))) .nil) .nil) .nil))))))
def LI (δ : Env') : Prop := ∃ s0 s2 s3 s4 s5 s6 s7 s8 s9 s10, δ = [s0, some .pen, s2, s3, s4, s5, s6, s7, s8, s9, s10]
theorem fact_sz {ks : List Int} (hks : ks ∈ K8) {f : PyData} (h : isFact ks f = true) : Sz 3 60 f ∧ inp f = true := by
  obtain ⟨l1, l2, l3⟩ := K8_ok ks hks
  obtain ⟨i, ts, rfl, h1, h2, h3, h4⟩ := fact_int h
  have q := kAt_ok hks h1 (by omega)
  have hi := small (i := i) (by omega) (by omega)
  have ht : ∀ l : List Int, (∀ t ∈ l, 0 ≤ t ∧ t ≤ 29) → wts (l.map .int) ≤ 7 * l.length ∧ inps (l.map .int) = true ∧ ∀ x ∈ l.map PyData.int, x.showable = true ∧ x.depth ≤ 0 := by
    intro l
    induction l with
    | nil => exact fun _ => ⟨Nat.le_refl 0, rfl, fun x hx => by cases hx⟩
    | cons a l ih =>
      intro hl
      obtain ⟨i1, i2, i3⟩ := ih fun t ht => hl t (.tail _ ht)
      have ha := small (i := a) (by have := hl a (.head _); omega) (by have := hl a (.head _); omega)
      refine ⟨?_, ?_, ?_⟩
      · have := ha.2.2
        simp only [List.map_cons, wts, List.length_cons]
        omega
      · have := hl a (.head _)
        simp only [List.map_cons, inps, i2, inp]
        simp
        omega
      · intro x hx
        rcases List.mem_cons.mp hx with rfl | hx
        · exact ⟨ha.1, ha.2.1⟩
        · exact i3 x hx
  obtain ⟨w1, w2, w3⟩ := ht ts h4
  have hlen : ts.length ≤ 2 := by omega
  have hT := Sz.tuple (n := 14) w3 (by omega)
  refine ⟨(Sz.tuple (d := 2) (n := 57) (fun x hx => ?_) ?_).le (by omega) (by omega), ?_⟩
  · simp only [List.mem_cons, List.not_mem_nil, or_false] at hx
    rcases hx with rfl | rfl
    · exact ⟨hi.1, by have := hi.2.1; omega⟩
    · exact ⟨hT.1, by have := hT.2.1; omega⟩
  · have := hi.2.2
    have := hT.2.2
    simp only [wts]
    omega
  · simp only [inp, inps, w2]
    simp
    omega
theorem facts_sz {ks : List Int} (hks : ks ∈ K8) : ∀ {fs : List PyData}, (∀ f ∈ fs, isFact ks f = true) → wts fs ≤ 62 * fs.length ∧ inps fs = true ∧ ∀ x ∈ fs, x.showable = true ∧ x.depth ≤ 3
  | [], _ => ⟨Nat.le_refl 0, rfl, fun x hx => by cases hx⟩
  | f :: fs, h => by
    obtain ⟨i1, i2, i3⟩ := facts_sz hks fun t ht => h t (.tail _ ht)
    obtain ⟨⟨a1, a2, a3⟩, a4⟩ := fact_sz hks (h f (.head _))
    refine ⟨?_, ?_, ?_⟩
    · simp only [wts, List.length_cons]
      omega
    · simp only [inps, i2, a4]
      rfl
    · intro x hx
      rcases List.mem_cons.mp hx with rfl | hx
      · exact ⟨a1, a2⟩
      · exact i3 x hx
theorem binD_mulT {xs : List PyData} {c : Int} (h1 : c ≤ 1000) (h2 : -1000 ≤ c) (h3 : xs.length ≤ 1000) : binD .mul (.tuple xs) (.int c) = some (.tuple (repD xs c.toNat)) := by
  have e : (decide (c ≤ 1000) && (decide (-1000 ≤ c) && decide (xs.length ≤ 1000))) = true := by
    rw [decide_eq_true h1, decide_eq_true h2, decide_eq_true h3]; rfl
  simp only [binD, e]
theorem rep_sz {c : Int} (h1 : 0 ≤ c) (h2 : c ≤ 2) {t : Int} (ht : t = 30 ∨ t = 29) : Sz 10 1000 (.tuple [.tuple [.int 0, .tuple (repD [.int t] c.toNat)]]) := by
  have : c = 0 ∨ c = 1 ∨ c = 2 := by omega
  rcases this with rfl | rfl | rfl <;> rcases ht with rfl | rfl <;> exact szB_ok (by decide +kernel)
theorem len_sz {ks : List Int} (hks : ks ∈ K8) : Sz 10 1000 (.tuple [.tuple [.int ks.length, .tuple []]]) := by
  have h : K8.all (fun ks => szB 10 1000 (.tuple [.tuple [.int ks.length, .tuple []]])) = true := by decide +kernel
  exact szB_ok (List.all_eq_true.mp h ks hks)
theorem lap_turn (hk : 10 ≤ k) (d : PyData) (δ : Env') (hδ : LI δ) : Ok (@fLoop ⟨Phi defs k⟩ (.nm 2) bLap d δ) (NxI LI) := by
  obtain ⟨s0, s2, s3, s4, s5, s6, s7, s8, s9, s10, rfl⟩ := hδ
  intro p
  simp [bLap]
  refine Gd.bR (s_kinds (k := k) (by omega) p) fun a g ⟨⟨ks, hks, ea⟩, p1, eg⟩ => ?_
  subst ea eg
  obtain ⟨l1, l2, l3⟩ := K8_ok ks hks
  simp
  refine Gd.bR (s_facts (k := k) (by omega) hks p1) fun a g ⟨⟨fs, ea, fl, hfs⟩, p2, eg⟩ => ?_
  subst ea eg
  simp
  refine Gd.bR (s_facts (k := k) (by omega) hks p2) fun a g ⟨⟨os, ea, ol, hos⟩, p3, eg⟩ => ?_
  subst ea eg
  obtain ⟨w1, w2, w3⟩ := facts_sz hks hfs
  obtain ⟨v1, v2, v3⟩ := facts_sz hks hos
  have c := cut_len fs (some (-1)) none
  have e1 : binD .add (.tuple fs) (.tuple (Ld.cutD fs (some (-1)) none)) = some (.tuple (fs ++ Ld.cutD fs (some (-1)) none)) := binD_addT (by show _ ≤ 10000000; omega)
  have e2 : binD .add (.tuple fs) (.tuple os) = some (.tuple (fs ++ os)) := binD_addT (by show _ ≤ 10000000; omega)
  simp [revT, slcT, e1, e2]
  refine Gd.bR (s_odd (k := k) (by omega) p3) fun a g ⟨⟨y, hy, ea⟩, p4, eg⟩ => ?_
  subst ea eg
  simp
  have hwt : wt (.tuple fs) ≤ 400 := by simp only [wt]; omega
  have hdp : (PyData.tuple fs).depth ≤ 4 := by
    simp only [PyData.depth]
    have := depthAll_iff.mpr fun x hx => (w3 x hx).2
    omega
  have b1 : Ok (Phi defs k "_law_bent" [.pen, .d (.tuple fs), .d (.int 1)]) (Bent (.tuple fs)) := s_bent 1 k (by omega) _ (by simpa [inp] using w2) (by omega)
  have b2 : Ok (Phi defs k "_law_bent" [.pen, .d (.tuple fs), .d (.int 2)]) (Bent (.tuple fs)) := s_bent 2 k (by omega) _ (by simpa [inp] using w2) (by omega)
  have b3 : Ok (Phi defs k "_law_bent" [.pen, .d (.tuple fs), .d (.int 3)]) (Bent (.tuple fs)) := s_bent 3 k (by omega) _ (by simpa [inp] using w2) (by omega)
  refine Gd.bR (P := fun ys g => Paired (fun d y => Sz 10 1000 y) [PyData.int 1, .int 2, .int 3, .int 3, .int 3] ys ∧ HasPen g) ?_ fun ys g ⟨hys, p5, eg⟩ => ?_
  · refine Ok.noX (Ok.loopC (fun d hd p => ?_)) _
    have fin : ∀ {n : Int}, Ok (Phi defs k "_law_bent" [.pen, .d (.tuple fs), .d (.int n)]) (Bent (.tuple fs)) → Gd (bR (Phi defs k "_law_bent" [.pen, .d (.tuple fs), .d (.int n)] (some p)) kLc4) fun o g => (∃ y, o = some y ∧ Sz 10 1000 y) ∧ HasPen g := fun {n} hb => by
      refine Gd.bR (hb p) fun a g ⟨⟨y, ea, hy⟩, hp⟩ => ?_
      subst ea
      exact .ok ⟨⟨y, rfl, hy.le (by omega) (by omega)⟩, hp⟩
    simp only [List.mem_cons, List.not_mem_nil, or_false] at hd
    rcases hd with rfl | rfl | rfl | rfl | rfl
    · simp; exact fin b1
    · simp; exact fin b2
    · simp; exact fin b3
    · simp; exact fin b3
    · simp; exact fin b3
  · subst eg
    have hyl : ys.length = 5 := (Paired.length hys).symm
    have hya : ∀ y ∈ ys, Sz 10 1000 y := by
      have : ∀ {ds ys : List PyData}, Paired (fun d y => Sz 10 1000 y) ds ys → ∀ y ∈ ys, Sz 10 1000 y := by
        intro ds ys h
        induction h with
        | nil => exact fun y hy => by cases hy
        | cons a _ ih =>
          intro y hy
          rcases List.mem_cons.mp hy with rfl | hy
          · exact a
          · exact ih y hy
      exact this hys
    obtain ⟨q1, q2⟩ := kAt_ok hks (i := 0) (by omega) (by omega)
    have e3 := sub_kinds (ks := ks) (i := 0) (by omega) (by omega)
    have e4 : binD .mul (.tuple [.int 30]) (.int (kAt ks 0)) = some (.tuple (repD [.int 30] (kAt ks 0).toNat)) := binD_mulT (by omega) (by omega) (by simp)
    have e5 : binD .mul (.tuple [.int 29]) (.int (kAt ks 0)) = some (.tuple (repD [.int 29] (kAt ks 0).toNat)) := binD_mulT (by omega) (by omega) (by simp)
    have e6 : biD .len [kD ks] = some (.int ks.length) := by unfold kD; rw [biD_lenT, List.length_map]
    obtain ⟨S6, hS⟩ : ∃ S6, S6 = [PyData.tuple fs, .tuple fs.reverse, .tuple (fs ++ Ld.cutD fs (some (-1)) none), .list fs, .tuple (fs ++ os), y] := ⟨_, rfl⟩
    rw [← hS]
    have hsl : S6.length = 6 := by rw [hS]; rfl
    have e7 : binD .add (.list S6) (.list ys) = some (.list (S6 ++ ys)) := binD_addL (by rw [hsl, hyl]; show _ ≤ 10000000; omega)
    rw [e7]
    simp [e3, e4, e5, e6]
    rw [binD_addL (by rw [List.length_append, hsl, hyl]; simp; show _ ≤ 10000000; omega)]
    simp
    have hvs : ∀ v ∈ S6 ++ ys ++ [PyData.tuple [.tuple [.int 0, .tuple (repD [.int 30] (kAt ks 0).toNat)]], .tuple [.tuple [.int 0, .tuple (repD [.int 29] (kAt ks 0).toNat)]], .tuple [.tuple [.int ks.length, .tuple []]]], Sz 40 40000 v := by
      intro v hv
      rcases List.mem_append.mp hv with hv | hv
      · rcases List.mem_append.mp hv with hv | hv
        · rw [hS] at hv
          simp only [List.mem_cons, List.not_mem_nil, or_false] at hv
          have hc := cut_wts fs (some (-1)) none
          rcases hv with rfl | rfl | rfl | rfl | rfl | rfl
          · exact (Sz.tuple w3 (Nat.le_refl _)).le (by omega) (by omega)
          · exact (Sz.tuple (fun x hx => w3 x (List.mem_reverse.mp hx)) (Nat.le_of_eq (wts_reverse fs))).le (by omega) (by omega)
          · refine (Sz.tuple (d := 3) (n := 1000) (fun x hx => ?_) (by rw [wts_append]; omega)).le (by omega) (by omega)
            rcases List.mem_append.mp hx with h | h
            · exact w3 x h
            · exact w3 x (cut_mem h)
          · exact (Sz.list w3 (Nat.le_refl _)).le (by omega) (by omega)
          · refine (Sz.tuple (d := 3) (n := 1000) (fun x hx => ?_) (by rw [wts_append]; omega)).le (by omega) (by omega)
            rcases List.mem_append.mp hx with h | h
            · exact w3 x h
            · exact v3 x h
          · exact (odd_sz _ hy).le (by omega) (by omega)
        · exact (hya v hv).le (by omega) (by omega)
      · simp only [List.mem_cons, List.not_mem_nil, or_false] at hv
        rcases hv with rfl | rfl | rfl
        · exact (rep_sz q1 q2 (.inl rfl)).le (by omega) (by omega)
        · exact (rep_sz q1 q2 (.inr rfl)).le (by omega) (by omega)
        · exact (len_sz hks).le (by omega) (by omega)
    refine Gd.bR (Gd_turns (I := LwS s0 (some (.val d)) ks fs os (some (.val (.list (S6 ++ ys)))) s7) ⟨_, _, _, rfl⟩ fun v hv δ hδ => value_turn (by omega) (hvs v (by simpa using hv)) hδ) fun a g ⟨⟨δ', ea, s8', s9', s10', eδ⟩, eg⟩ => ?_
    subst ea eg eδ
    have ha := s_among (g := some p5) (k := k) (by omega) (fun x hx => fact_key (hfs x hx)) (fun x hx => fact_key (hos x hx)) (by omega)
    obtain ⟨q, hq⟩ : ∃ q : PyData → Bool, q = fun t => os.any fun y => beqD y t := ⟨_, rfl⟩
    have ha : Phi defs k "are_among" [.d (.tuple fs), .d (.tuple os)] (some p5) = .ok (.d (.bool (fs.all q))) (some p5) := by rw [hq]; exact ha
    have hin : ∀ x ∈ fs, cmpD .notin x (.tuple os) = some (!q x) := fun x hx => by
      rw [show cmpD .notin x (.tuple os) = notO (inD x (.tuple os)) from rfl, inD_tuple (a := x) (xs := os) (fact_noB (hfs x hx)) (by have := fact_depth (hfs x hx); omega) (fun z hz => fact_noB (hos z hz)), hq]
      rfl
    clear hq
    obtain ⟨s, hs⟩ := reprB (fs.all q)
    obtain ⟨B, hB⟩ : ∃ B, B = fs.all q := ⟨_, rfl⟩
    rw [← hB] at ha hs
    simp [ha, hs]
    rw [loopC_pure (h := fun t => if q t = true then none else some (.int 1)) (fun x hx => by
      simp
      rw [hin x hx]
      cases q x <;> simp)]
    simp
    rw [eqD_nilL (fm_plain q fs), fm_empty q fs, ← hB]
    simp [hs]
    exact .ok ⟨.mk ⟨_, _, _, _, _, _, _, _, _, _, rfl⟩, .mk⟩
end
end Lk01
/-! text k01Z -/
set_option Elab.async false
set_option linter.all false
set_option maxRecDepth 100000
set_option maxHeartbeats 400000
namespace Lk01
open PySem PySem.Spec L2 Ld
open PyProof.Rows hiding St
theorem ans (ns : List Int) (h1 : ns.length ≤ 63) (h2 : ∀ z ∈ ns, Builtin.Int.intBits z ≤ 1048576) : ∃ g', Phi defs 40 "law" [.d (.list (ns.map .int))] none = .ok (.d (.bool true)) g' := by
  obtain ⟨m, hm, e⟩ := lk (k := 40) (x := "law") (d := d_law) (by rfl) (by omega)
  have hm : 30 ≤ m := by omega
  rw [e _ _ rfl]
  have hp : Phi defs m "_law_pen" [.d (.list (ns.map .int))] none = .ok .pen (some ⟨ns.take 63, 0, 0⟩) := by
    obtain ⟨j, rfl⟩ : ∃ j, m = j + 1 := ⟨m - 1, by omega⟩
    rw [phi (d := dPen) (by rfl)]
    exact @pen_ok ⟨Phi defs j⟩ ns
  suffices h : Gd (bR (@evSs ⟨Phi defs m⟩ d_law.body [] (startD d_law.ns [.d (.list (ns.map .int))]) none) endD) fun x _ => x = .d (.bool true) by
    obtain ⟨a, g', e, ha⟩ := h
    rw [ha] at e
    exact ⟨g', e⟩
  simp [d_law, startD, slotOf, hp]
  refine Gd.bR (s_draw (k := m) (by omega) (b := 6) (by omega) (by omega) _) fun a g ⟨⟨v, ea, v1, v2⟩, p1, eg⟩ => ?_
  subst ea eg
  simp
  refine Gd.bR (P := fun x g => x = .d (.bool false) ∧ HasPen g) ?_ fun a g ⟨ea, p2, eg⟩ => ?_
  · cases decide (v = 5) with
    | false => exact .ok ⟨rfl, .mk⟩
    | true =>
      simp
      rw [s_many (by omega)]
      simp
      exact .ok ⟨rfl, .mk⟩
  · subst ea eg
    simp
    rw [rng6]
    simp only [ofO_some, bR_ok]
    refine Gd.bR (Ok.turns (I := LI) ⟨_, _, _, _, _, _, _, _, _, _, rfl⟩ (fun d _ δ hδ => lap_turn (by omega) d δ hδ) p2) fun a g ⟨⟨δ', ea, hδ⟩, hp⟩ => ?_
    subst ea
    simp
    exact .ok rfl
end Lk01
/-! text k01F -/
set_option Elab.async false
set_option linter.all false
set_option maxRecDepth 100000
set_option maxHeartbeats 0
open PySem PySem.W PySem.Calls PyProof.Rows
theorem PySem.Challenge.cw_leadalike_k01_facts_required_holds : PySem.Challenge.rw_leadalike_k01_facts_required.Holds := by
  w_on; o_law
  refine HandSHeadRun.head_any (r := OpenLaw.row PySem.Challenge.rw_leadalike_k01_facts_required) (q := view (OpenLaw.row PySem.Challenge.rw_leadalike_k01_facts_required).prog [29]) (H := Lk01.hk) (ob := Lk01.ob) (M := 2000) (loose := Lk01.loose) (d := HandSHeadRun.topDef (OpenLaw.row PySem.Challenge.rw_leadalike_k01_facts_required).prog 29) (kwd := []) Lk01.ob_eq
    (by kernel_rfl) (fun s => by kernel_rfl) Lk01.run (by kernel_rfl) (by kernel_rfl) (by kernel_rfl) (by rfl) (by first | assumption | decide +kernel) (by decide +kernel) ⟨rfl, rfl, rfl, rfl, rfl, by decide +kernel⟩ ?hw ?hc
  case hw => w_witness2
  case hc =>
    refine Ld.walk_G (l := PySem.Challenge.rw_leadalike_k01_facts_required) (n := 63) (k := 42) (x := "script") (ex := fun w K => Ld.exOf Lk01.cl w K) (F := Ld.Phi Lk01.defs 40 "law") rfl (by decide) (by kernel_rfl) ⟨rfl, by decide, by decide⟩ ?F fun ns h1 h2 => Lk01.ans ns h1 h2
    intro w mg fa h Y G hmg0
    obtain ⟨K, KX, c, hs, hx⟩ := Y
    have hmg : mg ("law" : PySem.Str) = some (.ref fa) := by
      have e : (HandSHeadRun.topDef (OpenLaw.row PySem.Challenge.rw_leadalike_k01_facts_required).prog 29).name = ("law" : PySem.Str) := by kernel_rfl
      rw [← e]
      exact hmg0
    obtain ⟨fd, D⟩ := Lk01.at_law KX G c
    have e := hmg.symm.trans D.mg
    cases e
    obtain ⟨fd2, F⟩ := c.def_ 23 (d := Lk01.dd_law) rfl
    have e2 : fd2 = fd := by
      obtain ⟨_, _, _, _, _, _, _, _, _, _, e1, lk1, _, _, _⟩ := F.ex
      obtain ⟨_, _, _, _, _, _, _, _, _, _, _, _, _, _, _, _, lk2, _, e3, _⟩ := D.txt
      rw [e3]
      have z := lk1.symm.trans lk2
      simp only [Option.some.injEq, Obj.mk.injEq, Data.func.injEq] at z
      exact z.2.2.1
    subst e2
    refine ⟨K, fd2, KX, fun s u => L2.FunD.bindsA (ps := ["script"]) (show L2.FunD K "law" "law" Lk01.dd_law.params Lk01.dd_law.body Lk01.dd_law.scope [] [] _ fd2 from F) (fun _ _ _ _ _ _ us hl => match us, hl with | [_], _ => rfl) s [u] rfl, fun base XB GB => ?_⟩
    exact Ld.law_ok (n := 39) (Ld.sys_ok hs XB) (Lk01.blt KX G c) (Lk01.glb KX G hx) (by decide +kernel) (Lk01.txt KX G c) (Lk01.exc KX G XB GB c hx) (by rfl) D
